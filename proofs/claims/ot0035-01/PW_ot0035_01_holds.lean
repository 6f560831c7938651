import PyProof.Rows.All
import Wide.All
import OpenK.AllK
import Wide.FinOn
import Lean
import PySem.Challenge.RW_ot0035_01
set_option Elab.async false
section
open PySem PySem.W PyProof.Rows
set_option maxRecDepth 100000
set_option maxHeartbeats 8000000
namespace Mine
open_top hd for PySem.Challenge.rw_ot0035_01
end Mine
end
section
open PySem PySem.W
namespace Mine

/-! the clean values, the clean heap -/
inductive V where
  | d (x : PyData)
  | loc (n : Nat)
  | tupv (l : List V)
  | lstv (l : List V)
  | sdict (l : List (Str × PyData))
  | idict (l : List (Int × PyData))
  | bad

inductive O where
  | list (l : List PyData)
  | idict (l : List (Int × PyData))
  | iidict (l : List (Int × List (Int × PyData)))
  | attrs (C : Nat) (l : List (Str × V))

inductive BI where
  | len | abs | int | list | tuple | dict | sorted | max
inductive MB where
  | get | pop | append
inductive Tgt where
  | one (i : Nat)
  | many (is : List Nat)

inductive E where
  | fail
  | lit (x : PyData)
  | var (i : Nat)
  | glob (x : V)
  | tup (es : List E)
  | lst (mu : Bool) (es : List E)
  | dsp (mu : Bool) (ks vs : List E)
  | comp (mu : Bool) (elt : E) (tgt : Tgt) (iter : E) (ifs : List E) (init : List (Option Nat))
  | dcomp (k v : E) (tgt : Nat) (iter : E) (ifs : List E) (init : List (Option Nat))
  | bin (op : Operator) (a b : E)
  | cmp (op : CmpOp) (a b : E)
  | cmp2 (op op' : CmpOp) (a b c : E)
  | bop (all : Bool) (es : List E)
  | not (a : E)
  | neg (a : E)
  | ite (c a b : E)
  | sub (a i : E)
  | slc (a : E) (lo hi : Option E)
  | attr (a : E) (n : Str)
  | callF (f : Nat) (args : List E)
  | callC (C : Nat) (args : List E)
  | callB (mu : Bool) (b : BI) (args : List E)
  | methI (n : Str) (o : E) (args : List E)
  | methB (m : MB) (o : E) (args : List E)

inductive S where
  | asg (i : Nat) (e : E)
  | unp (rev : Bool) (is : List Nat) (e : E)
  | asgA (o : E) (n : Str) (e : E)
  | asgS (o k e : E)
  | expr (e : E)
  | ite (c : E) (a b : List S)
  | for_ (tgt : Tgt) (it : E) (body : List S)
  | forR (i : Nat) (n : E) (body : List S)
  | while_ (c : E) (body : List S)
  | ret (e : E)
  | retM (i : Nat)
  | asgSM (o k : E) (i : Nat) (e : E)
  | fail

structure Fn where
  qual : Str
  params : List Nat
  dfl : List V
  ns : Nat
  body : List S

structure Cl where
  init : Nat
  meths : List (Str × Nat)
  attrs : List Str

structure Tab where
  funs : List (Nat × Fn)
  clss : List (Nat × Cl)

structure St where
  b : Nat
  h : List O
  r : List (Option V)

inductive Fl where
  | next
  | ret (v : V)

/-! looking things up, by fast tests -/
def natsEq : List Nat → List Nat → Bool
  | [], [] => true
  | a :: r, b :: q => Nat.beq a b && natsEq r q
  | _, _ => false
def strEq (a b : Str) : Bool := natsEq a.cps.toList b.cps.toList
def findN {α : Type} (n : Nat) : List (Nat × α) → Option α
  | [] => none
  | (k, x) :: r => if Nat.beq n k then some x else findN n r
def findS {α : Type} (n : Str) : List (Str × α) → Option α
  | [] => none
  | (k, x) :: r => if strEq n k then some x else findS n r
def intEq : Int → Int → Bool
  | .ofNat a, .ofNat b => Nat.beq a b
  | .negSucc a, .negSucc b => Nat.beq a b
  | _, _ => false
def findI {α : Type} (n : Int) : List (Int × α) → Option α
  | [] => none
  | (k, x) :: r => if intEq n k then some x else findI n r
def putI {α : Type} (n : Int) (y : α) : List (Int × α) → List (Int × α)
  | [] => [(n, y)]
  | (k, x) :: r => if intEq n k then (k, y) :: r else (k, x) :: putI n y r
def dropI {α : Type} (n : Int) : List (Int × α) → List (Int × α)
  | [] => []
  | (k, x) :: r => if intEq n k then r else (k, x) :: dropI n r
def putS {α : Type} (n : Str) (y : α) : List (Str × α) → List (Str × α)
  | [] => [(n, y)]
  | (k, x) :: r => if strEq n k then (k, y) :: r else (k, x) :: putS n y r

/-! what stands below a mark of the heap -/
mutual
def V.und (n : Nat) : V → Bool
  | .d _ => true
  | .loc m => Nat.blt m n
  | .tupv l => undL n l
  | .lstv l => undL n l
  | .sdict _ => true
  | .idict _ => true
  | .bad => true
def undL (n : Nat) : List V → Bool
  | [] => true
  | v :: r => v.und n && undL n r
end
def undA (n : Nat) : List (Str × V) → Bool
  | [] => true
  | (_, v) :: r => v.und n && undA n r
def O.und (n : Nat) : O → Bool
  | .attrs _ l => undA n l
  | _ => true
def undH (n : Nat) : Nat → List O → Bool
  | 0, _ => true
  | _ + 1, [] => true
  | k + 1, o :: r => o.und n && undH n k r
def poison (n : Nat) : Option V → Option V
  | none => none
  | some v => some (if v.und n then v else .bad)
/-- forget what stands at n or beyond -/
def cut (n : Nat) (st : St) : St := if undH n n st.h then ⟨st.b, st.h.take n, st.r.map (poison n)⟩ else st
def cutTo (n : Nat) (st : St) : St := if Nat.ble st.h.length n then st else cut n st

/-! data -/
def lay (x : PyData) : Bool := x.canLay0 && decide (x.depth ≤ 60)
mutual
def deq : PyData → PyData → Bool
  | .none, .none => true
  | .bool a, .bool b => a == b
  | .bool a, .int j => intEq (if a then 1 else 0) j
  | .int i, .bool b => intEq i (if b then 1 else 0)
  | .int i, .int j => intEq i j
  | .str x, .str y => strEq x y
  | .list xs, .list ys => deqs xs ys
  | .tuple xs, .tuple ys => deqs xs ys
  | _, _ => false
def deqs : List PyData → List PyData → Bool
  | [], [] => true
  | x :: xs, y :: ys => deq x y && deqs xs ys
  | _, _ => false
end
def allD : List V → Option (List PyData)
  | [] => some []
  | .d x :: r => match allD r with | some l => some (x :: l) | none => none
  | _ :: _ => none
def mkTup (l : List V) : V := match allD l with | some xs => .d (.tuple xs) | none => .tupv l
def truthy : V → Option Bool
  | .d (.bool b) => some b
  | _ => none
def isNone : V → Option Bool
  | .d .none => some true
  | .d _ => some false
  | .loc _ => some false
  | .tupv _ => some false
  | .lstv _ => some false
  | .sdict _ => some false
  | .idict _ => some false
  | .bad => none
def bB (b : Bool) : V := .d (.bool b)
def bI (i : Int) : V := .d (.int i)
def lim : Nat := 1000000
def short {α : Type} (l : List α) : Bool := Nat.ble l.length lim
/-- below 2 ^ 64 in size -/
def small (i : Int) : Bool := Nat.blt i.natAbs (2 ^ 64)

def binV (op : Operator) (a b : V) : Option V :=
  match op, a, b with
  | .Add, .d (.int x), .d (.int y) => some (bI (x + y))
  | .Sub, .d (.int x), .d (.int y) => some (bI (x - y))
  | .Mult, .d (.int x), .d (.int y) => if small y || small x then some (bI (x * y)) else none
  | .FloorDiv, .d (.int x), .d (.int y) => if intEq y 0 then none else if small y then some (bI (x.fdiv y)) else none
  | .Mod, .d (.int x), .d (.int y) => if intEq y 0 then none else some (bI (x.fmod y))
  | .Pow, .d (.int x), .d (.int y) => if small x && (decide (0 ≤ y) && decide (y ≤ 200)) then some (bI (x ^ y.toNat)) else none
  | .Add, .d (.tuple x), .d (.tuple y) => if short x && short y then some (.d (.tuple (x ++ y))) else none
  | .Add, .d (.list x), .d (.list y) => if short x && short y then some (.d (.list (x ++ y))) else none
  | .Mult, .d (.list [x]), .d (.int y) => if decide (0 ≤ y) && decide (y ≤ 100) then some (.d (.list (List.replicate y.toNat x))) else none
  | _, _, _ => none
/-- a mutable list read as it stands -/
def rd (h : List O) : V → V
  | .loc n => match h[n]? with
    | some (.list l) => .d (.list l)
    | some (.idict l) => .idict l
    | _ => .loc n
  | v => v
def anyEq (x : PyData) : List PyData → Bool
  | [] => false
  | y :: r => deq y x || anyEq x r
def inV (h : List O) (a b : V) : Option Bool :=
  match a, b with
  | .d x, .d (.tuple ys) => if lay x && lay (.tuple ys) then some (anyEq x ys) else none
  | .d x, .d (.list ys) => if lay x && lay (.list ys) then some (anyEq x ys) else none
  | .d (.int k), .idict m => some (findI k m).isSome
  | .d x, .loc n => match h[n]? with
    | some (.list ys) => if lay x && lay (.list ys) then some (anyEq x ys) else none
    | some (.idict m) => (match x with | .int k => some (findI k m).isSome | _ => none)
    | some (.iidict m) => (match x with | .int k => some (findI k m).isSome | _ => none)
    | _ => none
  | _, _ => none
def eqV (h : List O) (a b : V) : Option Bool :=
  match rd h a, rd h b with
  | .d x, .d y => if lay x && lay y then some (deq x y) else none
  | _, _ => none
def cmpV (h : List O) (op : CmpOp) (a b : V) : Option V :=
  match op with
  | .Eq => match eqV h a b with | some r => some (bB r) | none => none
  | .NotEq => match eqV h a b with | some r => some (bB (!r)) | none => none
  | .Lt => match a, b with | .d (.int x), .d (.int y) => some (bB (decide (x < y))) | _, _ => none
  | .LtE => match a, b with | .d (.int x), .d (.int y) => some (bB (decide (x ≤ y))) | _, _ => none
  | .Gt => match a, b with | .d (.int x), .d (.int y) => some (bB (decide (x > y))) | _, _ => none
  | .GtE => match a, b with | .d (.int x), .d (.int y) => some (bB (decide (x ≥ y))) | _, _ => none
  | .Is => match b with | .d .none => (match isNone a with | some r => some (bB r) | none => none) | _ => none
  | .IsNot => match b with | .d .none => (match isNone a with | some r => some (bB (!r)) | none => none) | _ => none
  | .In => match inV h a b with | some r => some (bB r) | none => none
  | .NotIn => match inV h a b with | some r => some (bB (!r)) | none => none
def idx (k : Int) (n : Nat) : Option Nat :=
  match k with
  | .ofNat i => if Nat.blt i n then some i else none
  | .negSucc i => if Nat.blt i n then some (n - 1 - i) else none
def atL {α : Type} (k : Int) (l : List α) : Option α := if short l then (match idx k l.length with | some i => l[i]? | none => none) else none
def subV (h : List O) (a i : V) : Option V :=
  match a, i with
  | .d (.tuple xs), .d (.int k) => match atL k xs with | some x => some (.d x) | none => none
  | .d (.list xs), .d (.int k) => match atL k xs with | some x => some (.d x) | none => none
  | .loc n, .d (.int k) => match h[n]? with
    | some (.list xs) => (match atL k xs with | some x => some (.d x) | none => none)
    | some (.idict m) => (match findI k m with | some x => some (.d x) | none => none)
    | some (.iidict m) => (match findI k m with | some x => some (.idict x) | none => none)
    | _ => none
  | .idict m, .d (.int k) => match findI k m with | some x => some (.d x) | none => none
  | .sdict m, .d (.str k) => match findS k m with | some x => some (.d x) | none => none
  | .d (.str x), .d (.int k) => match k with | .ofNat 0 => (match x.cps.toList with | c :: _ => some (.d (.str ⟨#[c]⟩)) | [] => none) | _ => none
  | _, _ => none
def natOf : V → Option Nat
  | .d (.int (.ofNat n)) => if Nat.ble n lim then some n else none
  | _ => none
def slcV (h : List O) (a : V) (lo hi : Option Nat) : Option V :=
  match rd h a, lo, hi with
  | .d (.tuple xs), some k, none => if short xs && (Nat.ble 1 k && Nat.ble k xs.length) then some (.d (.tuple (xs.drop k))) else none
  | .d (.list xs), none, some k => if short xs then some (.d (.list (xs.take k))) else none
  | _, _, _ => none
def attrV (h : List O) (a : V) (n : Str) : Option V :=
  match a with
  | .loc m => match h[m]? with
    | some (.attrs _ l) => (match findS n l with
      | some .bad => none
      | o => o)
    | _ => none
  | _ => none
def insI (k : Int) : List Int → List Int
  | [] => [k]
  | x :: r => if decide (k ≤ x) then k :: x :: r else x :: insI k r
def sortI : List Int → List Int
  | [] => []
  | x :: r => insI x (sortI r)

def callB (h : List O) (mu : Bool) (b : BI) (args : List V) : Option (V × List O) :=
  match b, args with
  | .len, [v] => match rd h v with
    | .d (.list xs) => if short xs then some (bI xs.length, h) else none
    | .d (.tuple xs) => if short xs then some (bI xs.length, h) else none
    | .idict m => if short m then some (bI m.length, h) else none
    | _ => none
  | .abs, [.d (.int i)] => some (bI (if decide (i < 0) then -i else i), h)
  | .int, [.d (.int i)] => some (bI i, h)
  | .int, [.d (.bool b)] => some (bI (if b then 1 else 0), h)
  | .list, [v] => match rd h v with
    | .d (.list xs) => if short xs then some (.d (.list xs), h) else none
    | .d (.tuple xs) => if short xs then some (.d (.list xs), h) else none
    | _ => none
  | .tuple, [v] => match rd h v with
    | .d (.list xs) => if short xs then some (.d (.tuple xs), h) else none
    | .d (.tuple xs) => if short xs then some (.d (.tuple xs), h) else none
    | _ => none
  | .dict, [v] => match rd h v with
    | .idict m => if short m then (if mu then some (.loc h.length, h ++ [.idict m]) else some (.idict m, h)) else none
    | _ => none
  | .sorted, [.loc n] => match h[n]? with
    | some (.iidict m) => if Nat.blt m.length 64 && Nat.blt 0 m.length then some (.d (.list ((sortI (m.map (·.1))).map .int)), h) else none
    | _ => none
  | .max, [.d (.int a), .d (.int b)] => some (bI (if decide (b > a) then b else a), h)
  | _, _ => none

/-- of which kind a thing with methods is: a dict or a list -/
def mkind (h : List O) : V → Option Bool
  | .loc n => match h[n]? with
    | some (.list _) => some false
    | some (.idict _) => some true
    | _ => none
  | _ => none
def sameKind : Option Bool → Option Bool → Bool
  | some a, some b => a == b
  | _, _ => false
def methB (h : List O) (m : MB) (o : V) (args : List V) : Option (V × List O) :=
  match o with
  | .loc n => match m, h[n]?, args with
    | .get, some (.idict l), [.d (.int k)] => some ((match findI k l with | some x => .d x | none => .d .none), h)
    | .pop, some (.idict l), [.d (.int k), .d .none] => if short l then some ((match findI k l with | some x => .d x | none => .d .none), h.set n (.idict (dropI k l))) else none
    | .pop, some (.list l), [] => (match l.reverse with | x :: _ => if short l then some (.d x, h.set n (.list l.dropLast)) else none | [] => none)
    | .append, some (.list l), [.d x] => if short l then some (.d .none, h.set n (.list (l ++ [x]))) else none
    | _, _, _ => none
  | _ => none

def setS (h : List O) (a k v : V) : Option (List O) :=
  match a, k with
  | .loc n, .d (.int i) => match h[n]?, v with
    | some (.list l), .d x => if short l && decide (0 ≤ i) then (match idx i l.length with | some j => some (h.set n (.list (l.set j x))) | none => none) else none
    | some (.idict m), .d x => if short m then some (h.set n (.idict (putI i x m))) else none
    | some (.iidict m), .idict x => if short m then some (h.set n (.iidict (putI i x m))) else none
    | _, _ => none
  | _, _ => none
def setA (h : List O) (a : V) (x : Str) (v : V) : Option (List O) :=
  match a with
  | .loc n => match h[n]? with
    | some (.attrs C l) => if Nat.blt l.length 900 then some (h.set n (.attrs C (putS x v l))) else none
    | _ => none
  | _ => none

/-- what is iterated: items that stay, or a list of the heap -/
inductive Srcs where
  | vals (vs : List V)
  | at (n : Nat)
def srcOf (h : List O) (v : V) : Option (Srcs × Nat) :=
  match v with
  | .d (.list xs) => if short xs then some (.vals (xs.map .d), xs.length + 1) else none
  | .d (.tuple xs) => if short xs then some (.vals (xs.map .d), xs.length + 1) else none
  | .lstv l => if short l then some (.vals l, l.length + 1) else none
  | .tupv l => if short l then some (.vals l, l.length + 1) else none
  | .loc n => match h[n]? with
    | some (.list xs) => if short xs then some (.at n, xs.length + 1) else none
    | _ => none
  | _ => none
def nextS (s : Srcs) (i : Nat) (h : List O) : Option (Option V) :=
  match s with
  | .vals vs => some vs[i]?
  | .at n => match h[n]? with
    | some (.list xs) => (match xs[i]? with | some x => some (some (.d x)) | none => some none)
    | _ => none

def pick (l : List V) : List Nat → List (Option V) → Option (List (Option V))
  | [], r => match l with | [] => some r | _ => none
  | i :: is, r => match l with | v :: vs => pick vs is (r.set i (some v)) | [] => none
def parts : V → Option (List V)
  | .d (.tuple xs) => some (xs.map .d)
  | .d (.list xs) => some (xs.map .d)
  | .tupv l => some l
  | _ => none
def bindU (rev : Bool) (is : List Nat) (v : V) (r : List (Option V)) : Option (List (Option V)) :=
  match parts v with
  | some l => if Nat.beq l.length is.length && Nat.ble l.length 20 then (if rev then pick l.reverse is.reverse r else pick l is r) else none
  | none => none
def bindT (t : Tgt) (v : V) (r : List (Option V)) : Option (List (Option V)) :=
  match t with
  | .one i => some (r.set i (some v))
  | .many is => bindU false is v r
def initR (r : List (Option V)) : List (Option Nat) → List (Option V)
  | [] => []
  | none :: q => none :: initR r q
  | some i :: q => (match r[i]? with | some v => v | none => none) :: initR r q

abbrev Rho := List (Option V)
structure Rec where
  ev : E → Rho → List O → Option (V × List O)
  ex : S → St → Option (Fl × St)
  call : Nat → List V → List O → Option (V × List O)

section
variable (T : Tab) (r : Rec)

def evs (ρ : Rho) : List E → List O → Option (List V × List O)
  | [], h => some ([], h)
  | e :: es, h => match r.ev e ρ h with
    | some (v, h) => (match evs ρ es h with | some (vs, h) => some (v :: vs, h) | none => none)
    | none => none
/-- a test -/
def tstA (t : E → List O → Option (Bool × List O)) (all : Bool) : List E → List O → Option (Bool × List O)
  | [], h => some (all, h)
  | e :: es, h => match t e h with
    | some (b, h) => if b == all then tstA t all es h else some (b, h)
    | none => none
def tstN (ρ : Rho) : Nat → E → List O → Option (Bool × List O)
  | 0, _, _ => none
  | k + 1, e, h => match e with
    | .bop all es => tstA (tstN ρ k) all es h
    | .not a => (match tstN ρ k a h with | some (b, h) => some (!b, h) | none => none)
    | .ite _ _ _ => none
    | .cmp2 _ _ _ _ _ => none
    | e => (match r.ev e ρ h with
      | some (v, h) => (match truthy v with | some b => some (b, h) | none => none)
      | none => none)
def tst (e : E) (ρ : Rho) (h : List O) : Option (Bool × List O) := tstN r ρ 4 e h
def bopV (all : Bool) (ρ : Rho) : List E → List O → Option (V × List O)
  | [], _ => none
  | [e], h => r.ev e ρ h
  | e :: es, h => match r.ev e ρ h with
    | some (v, h) => (match truthy v with | some b => if b == all then bopV all ρ es h else some (v, h) | none => none)
    | none => none
def ifsAll (ρ : Rho) : List E → List O → Option (Bool × List O)
  | [], h => some (true, h)
  | e :: es, h => match tst r e ρ h with
    | some (true, h) => ifsAll ρ es h
    | some (false, h) => (match es with | [] => some (false, h) | _ => none)
    | none => none
def compS (elt : E) (tgt : Tgt) (ifs : List E) (src : Srcs) : Nat → Nat → Rho → List O → Option (List V × List O)
  | 0, _, _, _ => none
  | f + 1, i, ρ, h => match nextS src i h with
    | none => none
    | some none => some ([], h)
    | some (some v) => match bindT tgt v ρ with
      | none => none
      | some ρ => match ifsAll r ρ ifs h with
        | none => none
        | some (false, h) => compS elt tgt ifs src f (i + 1) ρ h
        | some (true, h) => match r.ev elt ρ h with
          | none => none
          | some (x, h) => match compS elt tgt ifs src f (i + 1) ρ h with | some (xs, h) => some (x :: xs, h) | none => none
def dcompL (ke ve : E) (tgt : Nat) (ifs : List E) : List Int → Rho → List O → List (Int × PyData) → Option (List (Int × PyData) × List O)
  | [], _, h, m => some (m, h)
  | k :: vs, ρ, h, m => match ifsAll r (ρ.set tgt (some (bI k))) ifs h with
      | none => none
      | some (false, h) => dcompL ke ve tgt ifs vs (ρ.set tgt (some (bI k))) h m
      | some (true, h) => match r.ev ke (ρ.set tgt (some (bI k))) h with
        | some (.d (.int k'), h) => (match r.ev ve (ρ.set tgt (some (bI k))) h with
          | some (.d x, h) => if short m then dcompL ke ve tgt ifs vs (ρ.set tgt (some (bI k))) h (putI k' x m) else none
          | _ => none)
        | _ => none
def dspS : List V → List V → List (Str × PyData) → Option (List (Str × PyData))
  | [], [], m => some m
  | .d (.str k) :: ks, .d x :: vs, m => dspS ks vs (putS k x m)
  | _, _, _ => none
def dspI : List V → List V → List (Int × PyData) → Option (List (Int × PyData))
  | [], [], m => some m
  | .d (.int k) :: ks, .d x :: vs, m => dspI ks vs (putI k x m)
  | _, _, _ => none
def dspII : List V → List V → List (Int × List (Int × PyData)) → Option (List (Int × List (Int × PyData)))
  | [], [], m => some m
  | .d (.int k) :: ks, .idict x :: vs, m => dspII ks vs (putI k x m)
  | _, _, _ => none
/-- key, value, key, value .. -/
def evp (ρ : Rho) : List E → List E → List O → Option (List V × List V × List O)
  | [], [], h => some ([], [], h)
  | k :: ks, v :: vs, h => match r.ev k ρ h with
    | none => none
    | some (k, h) => match r.ev v ρ h with
      | none => none
      | some (v, h) => match evp ρ ks vs h with | some (a, b, h) => some (k :: a, v :: b, h) | none => none
  | _, _, _ => none
def mkDict (mu : Bool) (ks vs : List V) (h : List O) : Option (V × List O) :=
  if mu then
    match vs with
    | .idict _ :: _ => (match dspII ks vs [] with | some m => some (.loc h.length, h ++ [.iidict m]) | none => none)
    | _ => (match dspI ks vs [] with | some m => some (.loc h.length, h ++ [.idict m]) | none => none)
  else
    match ks with
    | .d (.str _) :: _ => (match dspS ks vs [] with | some m => some (.sdict m, h) | none => none)
    | _ => (match dspI ks vs [] with | some m => some (.idict m, h) | none => none)
def mkList (mu : Bool) (vs : List V) (h : List O) : Option (V × List O) :=
  match allD vs with
  | some xs => if mu then some (.loc h.length, h ++ [.list xs]) else some (.d (.list xs), h)
  | none => if mu then none else some (.lstv vs, h)
def optNat (o : Option E) (ρ : Rho) (h : List O) : Option (Option Nat × List O) := match o with
  | none => some (none, h)
  | some e => match r.ev e ρ h with
    | some (v, h) => (match natOf v with | some n => some (some n, h) | none => none)
    | none => none
/-- the call of a def: what it made is forgotten where nothing kept bears it -/
def back (n : Nat) : Option (V × List O) → Option (V × List O)
  | some (v, h) => if v.und n && undH n n h then some (v, h.take n) else some (v, h)
  | none => none

def stepEv (e : E) (ρ : Rho) (h : List O) : Option (V × List O) :=
  match e with
  | .fail => none
  | .lit x => some (.d x, h)
  | .var i => match ρ[i]? with
    | some (some v) => some (v, h)
    | _ => none
  | .glob x => some (x, h)
  | .tup es => match evs r ρ es h with
    | some (vs, h) => some (mkTup vs, h)
    | none => none
  | .lst mu es => match evs r ρ es h with
    | some (vs, h) => mkList mu vs h
    | none => none
  | .dsp mu ks vs => match evp r ρ ks vs h with
    | some (ks, vs, h) => mkDict mu ks vs h
    | none => none
  | .comp mu elt tgt iter ifs init => match r.ev iter ρ h with
    | none => none
    | some (v, h) => match srcOf h v with
      | none => none
      | some (src, f) => match compS r elt tgt ifs src f 0 (initR ρ init) h with
        | none => none
        | some (xs, h₂) => mkList mu xs h₂
  | .dcomp ke ve tgt iter ifs init => match r.ev iter ρ h with
    | some (.idict m, h) => if short m then (match dcompL r ke ve tgt ifs (m.map (·.1)) (initR ρ init) h [] with
        | none => none
        | some (m', h) => some (.idict m', h)) else none
    | _ => none
  | .bin op a b => match r.ev a ρ h with
    | none => none
    | some (x, h) => match r.ev b ρ h with
      | none => none
      | some (y, h) => match binV op (rd h x) (rd h y) with | some v => some (v, h) | none => none
  | .cmp op a b => match r.ev a ρ h with
    | none => none
    | some (x, h) => match r.ev b ρ h with
      | none => none
      | some (y, h) => match cmpV h op x y with | some v => some (v, h) | none => none
  | .cmp2 op op' a b c => match r.ev a ρ h with
    | none => none
    | some (x, h) => match r.ev b ρ h with
      | none => none
      | some (y, h) => match cmpV h op x y with
        | none => none
        | some v => match truthy v with
          | none => none
          | some false => some (v, h)
          | some true => match r.ev c ρ h with
            | none => none
            | some (z, h) => match cmpV h op' y z with | some v => some (v, h) | none => none
  | .bop all es => bopV r all ρ es h
  | .not a => match r.ev a ρ h with
    | some (v, h) => (match truthy v with | some b => some (bB (!b), h) | none => none)
    | none => none
  | .neg a => match r.ev a ρ h with
    | some (.d (.int i), h) => some (bI (-i), h)
    | _ => none
  | .ite c a b => match tst r c ρ h with
    | some (true, h) => r.ev a ρ h
    | some (false, h) => r.ev b ρ h
    | none => none
  | .sub a i => match r.ev a ρ h with
    | none => none
    | some (x, h) => match r.ev i ρ h with
      | none => none
      | some (y, h) => match subV h x y with | some v => some (v, h) | none => none
  | .slc a lo hi => match r.ev a ρ h with
    | none => none
    | some (x, h) => match optNat r lo ρ h with
      | none => none
      | some (l, h) => match optNat r hi ρ h with
        | none => none
        | some (u, h) => match slcV h x l u with | some v => some (v, h) | none => none
  | .attr a n => match r.ev a ρ h with
    | some (x, h) => (match attrV h x n with | some v => some (v, h) | none => none)
    | none => none
  | .callF f args => match evs r ρ args h with
    | some (vs, h) => r.call f vs h
    | none => none
  | .callC C args => match evs r ρ args h with
    | none => none
    | some (vs, h) => match findN C T.clss with
      | none => none
      | some c => match r.call c.init (.loc h.length :: vs) (h ++ [.attrs C []]) with
        | some (.d .none, h') => some (.loc h.length, h')
        | _ => none
  | .callB mu b args => match evs r ρ args h with
    | some (vs, h) => callB h mu b vs
    | none => none
  | .methI n o args => match r.ev o ρ h with
    | some (.loc m, h) => (match h[m]? with
      | some (.attrs C l) => if (findS n l).isSome then none else (match evs r ρ args h with
        | none => none
        | some (vs, h) => match findN C T.clss with
          | none => none
          | some c => match findS n c.meths with
            | none => none
            | some f => r.call f (.loc m :: vs) h)
      | _ => none)
    | _ => none
  | .methB m o args => match r.ev o ρ h with
    | none => none
    | some (x, h) => match evs r ρ args h with
      | none => none
      | some (vs, h₂) => if sameKind (mkind h x) (mkind h₂ x) then methB h₂ m x vs else none

def exs : List S → St → Option (Fl × St)
  | [], st => some (.next, st)
  | s :: ss, st => match r.ex s st with
    | some (.next, st) => exs ss st
    | some (.ret v, st) => some (.ret v, st)
    | none => none
def forS (n : Nat) (tgt : Tgt) (body : List S) (src : Srcs) : Nat → Nat → St → Option (Fl × St)
  | 0, _, _ => none
  | f + 1, i, st => match nextS src i st.h with
    | none => none
    | some none => some (.next, st)
    | some (some v) => match bindT tgt v st.r with
      | none => none
      | some r' => match exs r body ⟨n, st.h, r'⟩ with
        | some (.next, st) => forS n tgt body src f (i + 1) (cutTo n st)
        | some (.ret v, st) => some (.ret v, st)
        | none => none
def forRL (n : Nat) (i : Nat) (body : List S) : Nat → Nat → St → Option (Fl × St)
  | _, 0, st => some (.next, st)
  | j, k + 1, st => match exs r body ⟨n, st.h, st.r.set i (some (bI j))⟩ with
      | some (.next, st) => forRL n i body (j + 1) k (cutTo n st)
      | some (.ret v, st) => some (.ret v, st)
      | none => none
def whileL (n : Nat) (c : E) (body : List S) : Nat → St → Option (Fl × St)
  | 0, _ => none
  | k + 1, st => match tst r c st.r st.h with
    | none => none
    | some (false, h) => some (.next, ⟨st.b, h, st.r⟩)
    | some (true, h) => match exs r body ⟨n, h, st.r⟩ with
      | some (.next, st) => whileL n c body k (cutTo n st)
      | some (.ret v, st) => some (.ret v, st)
      | none => none
/-- the last thing of the heap, taken out of its name -/
def takeM (i : Nat) (st : St) : Option (PyData × St) :=
  match st.r[i]? with
  | some (some (.loc n)) => if Nat.ble st.b n && Nat.beq (n + 1) st.h.length && undH n n st.h then (match st.h[n]? with
      | some (.list l) => some (.list l, ⟨st.b, st.h.take n, (st.r.set i none).map (poison n)⟩)
      | _ => none) else none
  | _ => none

def stepEx (s : S) (st : St) : Option (Fl × St) :=
  match s with
  | .asg i e => match r.ev e st.r st.h with
    | some (v, h) => some (.next, ⟨st.b, h, st.r.set i (some v)⟩)
    | none => none
  | .unp rev is e => match r.ev e st.r st.h with
    | some (v, h) => (match bindU rev is v st.r with | some r' => some (.next, ⟨st.b, h, r'⟩) | none => none)
    | none => none
  | .asgA o n e => match r.ev e st.r st.h with
    | none => none
    | some (v, h) => match r.ev o st.r h with
      | none => none
      | some (x, h) => match setA h x n v with | some h => some (.next, ⟨st.b, h, st.r⟩) | none => none
  | .asgS o k e => match r.ev e st.r st.h with
    | none => none
    | some (v, h) => match r.ev o st.r h with
      | none => none
      | some (x, h) => match r.ev k st.r h with
        | none => none
        | some (y, h) => match setS h x y v with | some h => some (.next, ⟨st.b, h, st.r⟩) | none => none
  | .expr e => match r.ev e st.r st.h with
    | some (_, h) => some (.next, ⟨st.b, h, st.r⟩)
    | none => none
  | .ite c a b => match tst r c st.r st.h with
    | some (true, h) => exs r a ⟨st.b, h, st.r⟩
    | some (false, h) => exs r b ⟨st.b, h, st.r⟩
    | none => none
  | .for_ tgt it body => match r.ev it st.r st.h with
    | none => none
    | some (v, h) => match srcOf h v with
      | none => none
      | some (src, f) => match forS r h.length tgt body src f 0 ⟨st.b, h, st.r⟩ with
        | none => none
        | some (fl, st') => some (fl, ⟨st.b, st'.h, st'.r⟩)
  | .forR i n body => match r.ev n st.r st.h with
    | none => none
    | some (v, h) => match natOf v with
      | none => none
      | some k => match forRL r h.length i body 0 k ⟨st.b, h, st.r⟩ with
        | some (fl, st') => some (fl, ⟨st.b, st'.h, st'.r⟩)
        | none => none
  | .while_ c body => match whileL r st.h.length c body 64 st with
    | some (fl, st') => some (fl, ⟨st.b, st'.h, st'.r⟩)
    | none => none
  | .ret e => match r.ev e st.r st.h with
    | some (v, h) => some (.ret v, ⟨st.b, h, st.r⟩)
    | none => none
  | .retM i => match st.r[i]? with
    | some (some (.loc n)) => if Nat.ble st.b n && Nat.beq (n + 1) st.h.length && undH n n st.h then (match st.h[n]? with
      | some (.list l) => some (.ret (.d (.list l)), ⟨st.b, st.h.take n, (st.r.set i none).map (poison n)⟩)
      | some (.idict l) => some (.ret (.idict l), ⟨st.b, st.h.take n, (st.r.set i none).map (poison n)⟩)
      | _ => none) else none
    | _ => none
  | .asgSM o k i e => match r.ev e st.r st.h with
    | some (.d y, h) => (match takeM i ⟨st.b, h, st.r⟩ with
      | none => none
      | some (l, st') => match r.ev o st'.r st'.h with
        | none => none
        | some (x, h) => match r.ev k st'.r h with
          | none => none
          | some (z, h) => match setS h x z (.d (.list [l, y])) with | some h => some (.next, ⟨st.b, h, st'.r⟩) | none => none)
    | _ => none
  | .fail => none

def bindArgs (f : Fn) (args : List V) : Option (List (Option V)) :=
  let need := f.params.length - args.length
  if Nat.ble args.length f.params.length && Nat.ble need f.dfl.length then
    pick (args ++ f.dfl.drop (f.dfl.length - need)) f.params (List.replicate f.ns none)
  else none
def run (f : Fn) (args : List V) (h : List O) : Option (V × List O) :=
  match bindArgs f args with
  | none => none
  | some r₀ => back h.length (match exs r f.body ⟨h.length, h, r₀⟩ with
    | some (.next, st) => some (.d .none, st.h)
    | some (.ret v, st) => some (v, st.h)
    | none => none)
end

def R (T : Tab) : Nat → Rec
  | 0 => ⟨fun _ _ _ => none, fun _ _ => none, fun _ _ _ => none⟩
  | n + 1 => ⟨stepEv T (R T n), stepEx (R T n), fun f args h => match findN f T.funs with
        | some fn => run (R T n) fn args h
        | none => none⟩
end Mine
end
section
open PySem PySem.W
namespace Mine

inductive GV where
  | fn (a : Nat)
  | cls (a : Nat)
  | bi (b : BI)
  | rng
  | val (v : V)

structure CE where
  names : List (Str × NameKind)
  gl : Str → Option GV
  muts : List (Nat × Nat)
  mvs : List (Nat × Nat)

def distS : List Str → Bool
  | [] => true
  | x :: r => !r.any (strEq x) && distS r
def atPos (p : Pos) : List (Nat × Nat) → Bool
  | [] => false
  | (a, b) :: r => (Nat.beq p.line a && Nat.beq p.col b) || atPos p r
def kindAt (x : Str) : List (Str × NameKind) → Option NameKind
  | [] => none
  | (y, k) :: r => if strEq x y then some k else kindAt x r
def slotAt (x : Str) : List (Str × NameKind) → Nat → Option Nat
  | [], _ => none
  | (y, k) :: r, i => if strEq x y then (match k with | .local | .cell | .free => some i | _ => none) else slotAt x r (i + 1)
def isGl (x : Str) (l : List (Str × NameKind)) : Bool := match kindAt x l with | some .globalImplicit => true | _ => false
def initOf (outer : List (Str × NameKind)) : List (Str × NameKind) → Option (List (Option Nat))
  | [] => some []
  | (x, .free) :: r => match kindAt x outer with
    | some .cell => (match slotAt x outer 0, initOf outer r with
      | some i, some l => some (some i :: l)
      | _, _ => none)
    | _ => none
  | (_, .cell) :: _ => none
  | _ :: r => match initOf outer r with | some l => some (none :: l) | none => none
def mapO {α β : Type} (f : α → Option β) : List α → Option (List β)
  | [] => some []
  | x :: r => match f x with
    | some y => (match mapO f r with | some l => some (y :: l) | none => none)
    | none => none
/-- a name that is stored to -/
def storeSlot (c : CE) (x : Str) : Option Nat := match kindAt x c.names with
  | some .local => slotAt x c.names 0
  | some .cell => slotAt x c.names 0
  | _ => none
def nameSlot (c : CE) : PySem.Expr → Option Nat
  | .Name x _ => storeSlot c x
  | _ => none
def isLocal (x : Str) (l : List (Str × NameKind)) : Bool := match kindAt x l with | some .local => true | _ => false
def swapName (c : CE) (line : Nat) : PySem.Expr → Option Str
  | .Name x p => if isLocal x c.names && Nat.beq p.line line then some x else none
  | _ => none
def swapNames (c : CE) (ts vs : List PySem.Expr) : Option (List Str) :=
  if (Nat.beq ts.length 2 || Nat.beq ts.length 3) && (Nat.beq vs.length ts.length && (!vs.all (foldedForSure 8) && !vs.all (constantsAlone 8))) then
    match mapO (swapName c ((ts.head?.map (·.pos.line)).getD 0)) ts with
    | some names => if distS names then some names else none
    | none => none
  else none
def noSwap (ts vs : List PySem.Expr) : Bool := !(Nat.beq ts.length 2 || Nat.beq ts.length 3) || vs.all (foldedForSure 8)
def tgtOf (c : CE) : PySem.Expr → Option Tgt
  | .Name x _ => match storeSlot c x with | some i => some (.one i) | none => none
  | .Tuple ts _ _ => match mapO (nameSlot c) ts with | some is => some (.many is) | none => none
  | _ => none
def sameKindOf : NameKind → NameKind → Bool
  | .local, .local => true
  | .free, .free => true
  | .globalImplicit, .globalImplicit => true
  | _, _ => false
/-- every name of it once, and none of them a cell -/
def scopeOk (names : List (Str × NameKind)) : Bool := (names.all fun p => match kindAt p.1 names with | some k => sameKindOf k p.2 | none => false) && distS (names.map (·.1))
def mbOf (n : Str) : Option MB :=
  if strEq n "get" then some .get else if strEq n "pop" then some .pop else if strEq n "append" then some .append else none
def fnKind (s : Scope) : Bool := match s.kind with | .function => true | _ => false
def reserved (x : Str) : Bool := strEq x "__debug__" || strEq x "__classdict__" || strEq x "__class__" || strEq x "super"

def isAnd : BoolOp → Bool
  | .And => true
  | .Or => false
def attrNames : List Str := ["name", "arg_count", "locals", "blocks", "spots", "known", "body", "followed", "begins"]
def attrName (x : Str) : Bool := attrNames.any (strEq x)
/-- it is not super() -/
def baseOk : PySem.Expr → Bool
  | .Call (.Name id _) [] [] _ => !strEq id "super"
  | _ => true
def plainArg : PySem.Expr → Bool
  | .Starred _ _ => false
  | _ => true
def plainArgs (l : List PySem.Expr) : Bool := l.all plainArg && Nat.ble l.length 20

def cE : Nat → CE → PySem.Expr → E
  | 0, _, _ => .fail
  | n + 1, c, x => match x with
    | .Constant .none _ _ => .lit .none
    | .Constant (.bool b) _ _ => .lit (.bool b)
    | .Constant (.int i) _ _ => .lit (.int i)
    | .Constant (.str s) _ _ => .lit (.str s)
    | .Name x p => if reserved x || atPos p c.mvs then .fail else match slotAt x c.names 0 with
      | some i => .var i
      | none => if isGl x c.names then (match c.gl x with | some (.val v) => .glob v | _ => .fail) else .fail
    | .Tuple es _ _ => if plainArgs es then .tup (es.map (cE n c)) else .fail
    | .List es p => if plainArgs es then .lst (atPos p c.muts) (es.map (cE n c)) else .fail
    | .Dict ks vs p => if Nat.beq ks.length vs.length && Nat.ble ks.length 15 then .dsp (atPos p c.muts) (ks.map fun k => match k with | some k => cE n c k | none => .fail) (vs.map (cE n c)) else .fail
    | .ListComp elt [⟨t, it, ifs, 0⟩] sc p =>
      match tgtOf { c with names := sc.names } t, initOf c.names sc.names, fnKind sc && scopeOk sc.names with
      | some t, some ini, true => .comp (atPos p c.muts) (cE n { c with names := sc.names } elt) t (cE n c it) (ifs.map (cE n { c with names := sc.names })) ini
      | _, _, _ => .fail
    | .DictComp k v [⟨.Name x _, it, ifs, 0⟩] sc _ =>
      match storeSlot { c with names := sc.names } x, initOf c.names sc.names, fnKind sc && scopeOk sc.names with
      | some t, some ini, true => .dcomp (cE n { c with names := sc.names } k) (cE n { c with names := sc.names } v) t (cE n c it) (ifs.map (cE n { c with names := sc.names })) ini
      | _, _, _ => .fail
    | .BinOp a op b _ => .bin op (cE n c a) (cE n c b)
    | .Compare a [op] [b] _ => if behindInMarks op b then .fail else .cmp op (cE n c a) (cE n c b)
    | .Compare a [op, op'] [b, d] _ => if behindInMarks op' d then .fail else .cmp2 op op' (cE n c a) (cE n c b) (cE n c d)
    | .BoolOp op es _ => .bop (isAnd op) (es.map (cE n c))
    | .UnaryOp .Not a _ => .not (cE n c a)
    | .UnaryOp .USub a _ => .neg (cE n c a)
    | .IfExp t a b _ => .ite (cE n c t) (cE n c a) (cE n c b)
    | .Subscript v (.Slice lo hi none _) _ => .slc (cE n c v) (match lo with | some e => some (cE n c e) | none => none) (match hi with | some e => some (cE n c e) | none => none)
    | .Subscript v i _ => .sub (cE n c v) (cE n c i)
    | .Attribute v x _ => if baseOk v && attrName x then .attr (cE n c v) x else .fail
    | .Call (.Name x _) args [] p => if reserved x || !plainArgs args then .fail else if isGl x c.names then (match c.gl x with
      | some (.fn a) => .callF a (args.map (cE n c))
      | some (.cls a) => .callC a (args.map (cE n c))
      | some (.bi b) => .callB (atPos p c.muts) b (args.map (cE n c))
      | _ => .fail) else .fail
    | .Call (.Attribute o x ap) args [] p => if !baseOk o || (!plainArgs args || !Nat.beq ap.endLine p.line) then .fail else match mbOf x with | some m => .methB m (cE n c o) (args.map (cE n c)) | none => .methI x (cE n c o) (args.map (cE n c))
    | _ => .fail

def rngArg (c : CE) : PySem.Expr → Option PySem.Expr
  | .Call (.Name x _) [e] [] _ => if isGl x c.names && (!reserved x && plainArg e) then (match c.gl x with | some .rng => some e | _ => none) else none
  | _ => none

def notComp : PySem.Expr → Bool
  | .ListComp _ _ _ _ => false
  | .SetComp _ _ _ _ => false
  | .DictComp _ _ _ _ _ => false
  | _ => true
/-- a name read the last time -/
def lastName (c : CE) : PySem.Expr → Option Nat
  | .Name x p => if atPos p c.mvs && !reserved x then slotAt x c.names 0 else none
  | _ => none
/-- a list of a name read the last time, and another thing -/
def lastPair (c : CE) : PySem.Expr → Option (Nat × PySem.Expr)
  | .List [a, e] _ => if plainArg e then (match lastName c a with | some i => some (i, e) | none => none) else none
  | _ => none

def cS : Nat → CE → PySem.Stmt → S
  | 0, _, _ => .fail
  | n + 1, c, x => match x with
    | .Assign [.Name x _] v _ => (match storeSlot c x with | some i => .asg i (cE n c v) | none => .fail)
    | .Assign [.Tuple ts _ _] (.Tuple vs i p) _ => (match swapNames c ts vs with
      | some names => (match mapO (storeSlot c) names with | some is => .unp true is (cE n c (.Tuple vs i p)) | none => .fail)
      | none => if noSwap ts vs then (match mapO (nameSlot c) ts with | some is => .unp false is (cE n c (.Tuple vs i p)) | none => .fail) else .fail)
    | .Assign [.Tuple ts _ _] v _ => (match mapO (nameSlot c) ts with | some is => .unp false is (cE n c v) | none => .fail)
    | .Assign [.Attribute o x _] v _ => if attrName x then .asgA (cE n c o) x (cE n c v) else .fail
    | .Assign [.Subscript o k _] v _ => (match lastPair c v with
      | some (i, e) => .asgSM (cE n c o) (cE n c k) i (cE n c e)
      | none => .asgS (cE n c o) (cE n c k) (cE n c v))
    | .Expr v _ => if notComp v then .expr (cE n c v) else .fail
    | .If t a b _ => .ite (cE n c t) (a.map (cS n c)) (b.map (cS n c))
    | .For t it a [] _ => (match rngArg c it with
      | some e => (match nameSlot c t with | some i => .forR i (cE n c e) (a.map (cS n c)) | none => .fail)
      | none => match tgtOf c t with | some t => .for_ t (cE n c it) (a.map (cS n c)) | none => .fail)
    | .While t a [] _ => .while_ (cE n c t) (a.map (cS n c))
    | .Return (some e) _ => (match lastName c e with
      | some i => .retM i
      | none => .ret (cE n c e))
    | _ => .fail

/-! the table out of the written heap -/
def readD (K : Frag) : Nat → Value → Option PyData
  | _, .none => some .none
  | _, .bool b => some (.bool b)
  | _, .int i _ => some (.int i)
  | _, .str s _ => some (.str s)
  | n + 1, .ref a => match findN a K with
    | some ⟨.type "tuple", _, .seq xs _, _⟩ => (match mapO (readD K n) xs.toList with | some l => some (.tuple l) | none => none)
    | _ => none
  | _, _ => none
def readSD (K : Frag) (es : List DictEntry) : Option (List (Str × PyData)) := mapO (fun e => match e.key with
  | .str x _ => (match readD K 3 e.val with | some d => some (x, d) | none => none)
  | _ => none) es
def globalIn (K : Frag) (x : Str) : List DictEntry → Option Value
  | [] => none
  | e :: r => match e.key with
    | .str y _ => if strEq x y then some e.val else globalIn K x r
    | _ => globalIn K x r
def entriesOf (o : Option Obj) : List DictEntry := match o with
  | some ⟨_, _, .dict es _, _⟩ => es.toList
  | _ => []
def biOf (x : Str) : Option GV :=
  if strEq x "len" then some (.bi .len) else if strEq x "abs" then some (.bi .abs) else if strEq x "int" then some (.bi .int)
  else if strEq x "list" then some (.bi .list) else if strEq x "tuple" then some (.bi .tuple) else if strEq x "dict" then some (.bi .dict)
  else if strEq x "sorted" then some (.bi .sorted) else if strEq x "max" then some (.bi .max) else if strEq x "range" then some .rng else none
def glOf (K : Frag) (x : Str) : Option GV := match nsIn K mainGlobals x with
  | some (some (.ref a)) => (match findN a K with
    | some ⟨_, _, .func _, _⟩ => some (.fn a)
    | some ⟨_, _, .cls _, _⟩ => some (.cls a)
    | some ⟨.type "dict", none, .dict es _, _⟩ => (match readSD K es.toList with | some m => some (.val (.sdict m)) | none => none)
    | _ => match readD K 3 (.ref a) with | some d => some (.val (.d d)) | none => none)
  | some (some _) => none
  | some none => biOf x
  | none => none
def dflOf (K : Frag) : Value → Option (List V)
  | .none => some []
  | .ref a => (match findN a K with | some ⟨_, _, .seq xs _, _⟩ => mapO (fun v => match readD K 3 v with | some d => some (V.d d) | none => none) xs.toList | _ => none)
  | _ => none
def ceOf (gl : Str → Option GV) (muts mvs : List (Nat × Nat)) (fd : FuncData) : CE := ⟨fd.scope.names, gl, muts, mvs⟩
def mkFn (K : Frag) (gl : Str → Option GV) (muts mvs : List (Nat × Nat)) (fd : FuncData) : Option Fn :=
  match fd.body with
  | .stmts b =>
    match mapO (fun a : Arg => slotAt a.arg fd.scope.names 0) fd.params.args, dflOf K fd.defaults, fnKind fd.scope with
    | some ps, some ds, true => some ⟨fd.qualname, ps, ds, fd.scope.names.length, b.map (cS 60 (ceOf gl muts mvs fd))⟩
    | _, _, _ => none
  | _ => none
def methsIn (K : Frag) : List DictEntry → List (Str × Nat)
  | [] => []
  | e :: r => match e.key, e.val with
    | .str x _, .ref a => (match findN a K with | some ⟨_, _, .func _, _⟩ => (x, a) :: methsIn K r | _ => methsIn K r)
    | _, _ => methsIn K r
def mkCl (K : Frag) (attrs : List Str) (cd : ClassData) : Option Cl :=
  match cd.mro with
  | [.ref _, .type _] => let ms := methsIn K (entriesOf (findN cd.ns K))
    (match findS "__init__" ms with | some i => some ⟨i, ms, attrs⟩ | none => none)
  | _ => none
def mkFuns (K : Frag) (gl : Str → Option GV) (muts mvs : List (Nat × Nat)) : Frag → List (Nat × Fn)
  | [] => []
  | (a, ⟨_, _, .func fd, _⟩) :: r => (match mkFn K gl muts mvs fd with | some f => (a, f) :: mkFuns K gl muts mvs r | none => mkFuns K gl muts mvs r)
  | _ :: r => mkFuns K gl muts mvs r
def mkClss (K : Frag) (attrs : List Str) : Frag → List (Nat × Cl)
  | [] => []
  | (a, ⟨_, _, .cls cd, _⟩) :: r => (match mkCl K attrs cd with | some f => (a, f) :: mkClss K attrs r | none => mkClss K attrs r)
  | _ :: r => mkClss K attrs r
def mkTab (K : Frag) (attrs : List Str) (muts mvs : List (Nat × Nat)) : Tab :=
  let gl := glOf K
  ⟨mkFuns K gl muts mvs K, mkClss K attrs K⟩
end Mine
end
section
open PySem PySem.W PyProof.Rows
set_option linter.unusedVariables false
namespace Mine

abbrev Led := List (Addr × Obj)
def Kn (hb : Heap) (Z : Led) (a : Addr) (o : Obj) : Prop := hb.get? a = some o ∨ (a, o) ∈ Z

mutual
inductive RD (kn : Addr → Obj → Prop) : PyData → Value → Prop
  | none : RD kn .none .none
  | bool (b) : RD kn (.bool b) (.bool b)
  | int (i t) : RD kn (.int i) (.int i t)
  | str (x t) : RD kn (.str x) (.str x t)
  | list {a o vs n xs} : kn a o → o.cls = .type "list" → o.data = .seq vs n → RDs kn xs vs.toList → RD kn (.list xs) (.ref a)
  | tuple {a o vs n xs} : kn a o → o.cls = .type "tuple" → o.data = .seq vs n → RDs kn xs vs.toList → RD kn (.tuple xs) (.ref a)
inductive RDs (kn : Addr → Obj → Prop) : List PyData → List Value → Prop
  | nil : RDs kn [] []
  | cons {x v xs vs} : RD kn x v → RDs kn xs vs → RDs kn (x :: xs) (v :: vs)
end

mutual
theorem RD.mono {kn kn' : Addr → Obj → Prop} (h : ∀ a o, kn a o → kn' a o) : ∀ (x : PyData) (v : Value), RD kn x v → RD kn' x v
  | .none, _, r => by cases r; exact .none
  | .bool _, _, r => by cases r; exact .bool _
  | .int _, _, r => by cases r; exact .int _ _
  | .str _, _, r => by cases r; exact .str _ _
  | .list xs, _, r => by cases r with | list a b c d => exact .list (h _ _ a) b c (RDs.mono h xs _ d)
  | .tuple xs, _, r => by cases r with | tuple a b c d => exact .tuple (h _ _ a) b c (RDs.mono h xs _ d)
  | .dict _, _, r => by cases r
theorem RDs.mono {kn kn' : Addr → Obj → Prop} (h : ∀ a o, kn a o → kn' a o) : ∀ (xs : List PyData) (vs : List Value), RDs kn xs vs → RDs kn' xs vs
  | [], _, r => by cases r; exact .nil
  | x :: xs, _, r => by cases r with | cons a b => exact .cons (RD.mono h x _ a) (RDs.mono h xs _ b)
end
theorem RDs.length {kn : Addr → Obj → Prop} : ∀ {xs : List PyData} {vs : List Value}, RDs kn xs vs → vs.length = xs.length
  | [], _, r => by cases r; rfl
  | x :: xs, _, r => by cases r with | cons a b => simp [RDs.length b]
theorem RDs.get {kn : Addr → Obj → Prop} : ∀ {xs : List PyData} {vs : List Value} {i : Nat} {x : PyData}, RDs kn xs vs → xs[i]? = some x → ∃ v, vs[i]? = some v ∧ RD kn x v
  | [], _, _, _, r, h => by simp at h
  | x :: xs, _, 0, y, r, h => by cases r with | cons a b => simp at h; subst h; exact ⟨_, rfl, a⟩
  | x :: xs, _, i + 1, y, r, h => by cases r with | cons a b => simp at h; exact RDs.get (i := i) b h
theorem RDs.append {kn : Addr → Obj → Prop} : ∀ {xs ys : List PyData} {vs us : List Value}, RDs kn xs vs → RDs kn ys us → RDs kn (xs ++ ys) (vs ++ us)
  | [], _, _, _, r, q => by cases r; exact q
  | x :: xs, _, _, _, r, q => by cases r with | cons a b => exact .cons a (RDs.append b q)
theorem RDs.take {kn : Addr → Obj → Prop} : ∀ {xs : List PyData} {vs : List Value} (n : Nat), RDs kn xs vs → RDs kn (xs.take n) (vs.take n)
  | _, _, 0, _ => by simp; exact .nil
  | [], _, n + 1, r => by cases r; exact .nil
  | x :: xs, _, n + 1, r => by cases r with | cons a b => exact .cons a (RDs.take n b)
theorem RDs.drop {kn : Addr → Obj → Prop} : ∀ {xs : List PyData} {vs : List Value} (n : Nat), RDs kn xs vs → RDs kn (xs.drop n) (vs.drop n)
  | _, _, 0, r => r
  | [], _, n + 1, r => by cases r; exact .nil
  | x :: xs, _, n + 1, r => by cases r with | cons a b => exact RDs.drop n b
theorem RDs.set {kn : Addr → Obj → Prop} : ∀ {xs : List PyData} {vs : List Value} (n : Nat) {x : PyData} {v : Value}, RDs kn xs vs → RD kn x v → RDs kn (xs.set n x) (vs.set n v)
  | [], _, _, _, _, r, q => by cases r; exact .nil
  | x :: xs, _, 0, _, _, r, q => by cases r with | cons a b => exact .cons q b
  | x :: xs, _, n + 1, _, _, r, q => by cases r with | cons a b => exact .cons a (RDs.set n b q)
theorem RDs.dropLast {kn : Addr → Obj → Prop} {xs : List PyData} {vs : List Value} (r : RDs kn xs vs) : RDs kn xs.dropLast vs.dropLast := by
  rw [List.dropLast_eq_take, List.dropLast_eq_take, r.length]; exact r.take _
theorem RDs.replicate {kn : Addr → Obj → Prop} {x : PyData} {v : Value} (r : RD kn x v) : ∀ n, RDs kn (List.replicate n x) (List.replicate n v)
  | 0 => .nil
  | n + 1 => .cons r (RDs.replicate r n)

mutual
theorem RD.reads {h : Heap} : ∀ {x : PyData} {v : Value}, RD (fun a o => h.get? a = some o) x v → ∃ as, Reads h v x as
  | .none, _, r => by cases r; exact ⟨_, .none⟩
  | .bool _, _, r => by cases r; exact ⟨_, .bool _⟩
  | .int _, _, r => by cases r; exact ⟨_, .int _ _⟩
  | .str _, _, r => by cases r; exact ⟨_, .str _ _⟩
  | .list xs, _, r => by cases r with | list a b c d => obtain ⟨as, q⟩ := RDs.reads d; exact ⟨_, .list a b c q⟩
  | .tuple xs, _, r => by cases r with | tuple a b c d => obtain ⟨as, q⟩ := RDs.reads d; exact ⟨_, .tuple a b c q⟩
  | .dict _, _, r => by cases r
theorem RDs.reads {h : Heap} : ∀ {xs : List PyData} {vs : List Value}, RDs (fun a o => h.get? a = some o) xs vs → ∃ as, ReadsAll h vs xs as
  | [], _, r => by cases r; exact ⟨_, .nil⟩
  | x :: xs, _, r => by
    cases r with
    | cons a b =>
      obtain ⟨as, q⟩ := RD.reads a
      obtain ⟨bs, q'⟩ := RDs.reads b
      exact ⟨_, .cons q q'⟩
end

section
variable (prog : Program) (w : World)

inductive PD {K : Type} (P : PyData → Value → Prop) : List (K × PyData) → List (K × Value) → Prop
  | nil : PD P [] []
  | cons {k x v m kvs} : P x v → PD P m kvs → PD P ((k, x) :: m) ((k, v) :: kvs)

mutual
inductive VR (kn : Addr → Obj → Prop) (as : List Addr) : V → Value → Prop
  | d {x v} : RD kn x v → VR kn as (.d x) v
  | loc {n a} : as[n]? = some a → VR kn as (.loc n) (.ref a)
  | tupv {l a o vs n} : kn a o → o.cls = .type "tuple" → o.data = .seq vs n → VRs kn as l vs.toList → VR kn as (.tupv l) (.ref a)
  | lstv {l a o vs n} : kn a o → o.cls = .type "list" → o.data = .seq vs n → VRs kn as l vs.toList → VR kn as (.lstv l) (.ref a)
  | sdict {m a o} {kvs : List (Str × Value)} : kn a o → o.IsDictOf (strKind prog w) kvs → PD (RD kn) m kvs → VR kn as (.sdict m) (.ref a)
  | idict {m a o} {kvs : List (Int × Value)} : kn a o → (a == sysModules) = false → o.IsDictOf (intKind prog w) kvs → PD (RD kn) m kvs → VR kn as (.idict m) (.ref a)
  | bad {v} : VR kn as .bad v
inductive VRs (kn : Addr → Obj → Prop) (as : List Addr) : List V → List Value → Prop
  | nil : VRs kn as [] []
  | cons {x v xs vs} : VR kn as x v → VRs kn as xs vs → VRs kn as (x :: xs) (v :: vs)
end
variable {prog w}

theorem PD.mono {K : Type} {P P' : PyData → Value → Prop} (h : ∀ x v, P x v → P' x v) : ∀ {m : List (K × PyData)} {kvs : List (K × Value)}, PD P m kvs → PD P' m kvs
  | _, _, .nil => .nil
  | _, _, .cons a b => .cons (h _ _ a) (b.mono h)

mutual
theorem VR.mono {kn kn' : Addr → Obj → Prop} {as as' : List Addr} (h : ∀ a o, kn a o → kn' a o) (ha : as <+: as') : ∀ (x : V) (v : Value), VR prog w kn as x v → VR prog w kn' as' x v
  | .d x, _, r => by cases r with | d a => exact .d (a.mono h)
  | .loc n, _, r => by
    cases r with
    | loc a =>
      refine .loc ?_
      obtain ⟨t, rfl⟩ := ha
      rw [List.getElem?_append_left (List.getElem?_eq_some_iff.mp a).1]; exact a
  | .tupv l, _, r => by cases r with | tupv a b c d => exact .tupv (h _ _ a) b c (VRs.mono h ha l _ d)
  | .lstv l, _, r => by cases r with | lstv a b c d => exact .lstv (h _ _ a) b c (VRs.mono h ha l _ d)
  | .sdict _, _, r => by cases r with | sdict a b c => exact .sdict (h _ _ a) b (c.mono fun _ _ q => q.mono h)
  | .idict _, _, r => by cases r with | idict a z b c => exact .idict (h _ _ a) z b (c.mono fun _ _ q => q.mono h)
  | .bad, _, r => .bad
theorem VRs.mono {kn kn' : Addr → Obj → Prop} {as as' : List Addr} (h : ∀ a o, kn a o → kn' a o) (ha : as <+: as') : ∀ (xs : List V) (vs : List Value), VRs prog w kn as xs vs → VRs prog w kn' as' xs vs
  | [], _, r => by cases r; exact .nil
  | x :: xs, _, r => by cases r with | cons a b => exact .cons (VR.mono h ha x _ a) (VRs.mono h ha xs _ b)
end
theorem VRs.length {kn : Addr → Obj → Prop} {as : List Addr} : ∀ {xs : List V} {vs : List Value}, VRs prog w kn as xs vs → vs.length = xs.length
  | [], _, r => by cases r; rfl
  | x :: xs, _, r => by cases r with | cons a b => simp [VRs.length b]
theorem VRs.get {kn : Addr → Obj → Prop} {as : List Addr} : ∀ {xs : List V} {vs : List Value} {i : Nat} {x : V}, VRs prog w kn as xs vs → xs[i]? = some x → ∃ v, vs[i]? = some v ∧ VR prog w kn as x v
  | [], _, _, _, r, h => by simp at h
  | x :: xs, _, 0, y, r, h => by cases r with | cons a b => simp at h; subst h; exact ⟨_, rfl, a⟩
  | x :: xs, _, i + 1, y, r, h => by cases r with | cons a b => simp at h; exact VRs.get (i := i) b h
theorem VRs.ofD {kn : Addr → Obj → Prop} {as : List Addr} : ∀ {xs : List PyData} {vs : List Value}, RDs kn xs vs → VRs prog w kn as (xs.map .d) vs
  | [], _, r => by cases r; exact .nil
  | x :: xs, _, r => by cases r with | cons a b => exact .cons (.d a) (VRs.ofD b)
theorem VRs.toD {kn : Addr → Obj → Prop} {as : List Addr} : ∀ {l : List V} {xs : List PyData} {vs : List Value}, VRs prog w kn as l vs → allD l = some xs → RDs kn xs vs
  | [], _, _, r, h => by cases r; cases h; exact .nil
  | x :: l, _, _, r, h => by
    cases r with
    | cons a b =>
      cases a with
      | d q =>
        unfold allD at h
        split at h
        · rename_i xs' e'; cases h; exact .cons q (VRs.toD b e')
        · cases h
      | _ => cases h

/-! forgetting what stands at n or beyond -/
mutual
theorem VR.cut {kn : Addr → Obj → Prop} {as : List Addr} {n : Nat} : ∀ (x : V) (v : Value), x.und n = true → VR prog w kn as x v → VR prog w kn (as.take n) x v
  | .d x, _, _, r => by cases r with | d a => exact .d a
  | .loc m, _, h, r => by
    cases r with
    | loc a =>
      refine .loc ?_
      rw [List.getElem?_take, if_pos (show m < n from Nat.le_of_ble_eq_true h)]; exact a
  | .tupv l, _, h, r => by cases r with | tupv a b c d => exact .tupv a b c (VRs.cut l _ h d)
  | .lstv l, _, h, r => by cases r with | lstv a b c d => exact .lstv a b c (VRs.cut l _ h d)
  | .sdict _, _, _, r => by cases r with | sdict a b c => exact .sdict a b c
  | .idict _, _, _, r => by cases r with | idict a z b c => exact .idict a z b c
  | .bad, _, _, r => .bad
theorem VRs.cut {kn : Addr → Obj → Prop} {as : List Addr} {n : Nat} : ∀ (xs : List V) (vs : List Value), undL n xs = true → VRs prog w kn as xs vs → VRs prog w kn (as.take n) xs vs
  | [], _, _, r => by cases r; exact .nil
  | x :: xs, _, h, r => by
    have h' : x.und n = true ∧ undL n xs = true := Bool.and_eq_true_iff.mp h
    cases r with | cons a b => exact .cons (VR.cut x _ h'.1 a) (VRs.cut xs _ h'.2 b)
end

inductive PDD (kn : Addr → Obj → Prop) : List (Int × List (Int × PyData)) → List (Int × Value) → Prop
  | nil : PDD kn [] []
  | cons {k x v m kvs} : VR prog w kn [] (.idict x) v → PDD kn m kvs → PDD kn ((k, x) :: m) ((k, v) :: kvs)
inductive ADs (P : Params) (kn : Addr → Obj → Prop) (as : List Addr) : List (Str × V) → List DictEntry → Prop
  | nil : ADs P kn as [] []
  | cons {k x e m es} : e.key.isStr k = true → (∃ t, e.key = .str k t) → VR prog w kn as x e.val → ADs P kn as m es → ADs P kn as ((k, x) :: m) (e :: es)
inductive OR (cg : Nat → Prop) (kn : Addr → Obj → Prop) (as : List Addr) : O → Addr → Led → Prop
  | list {l vs a n} : RDs kn l vs → OR cg kn as (.list l) a [(a, listOf vs.toArray n)]
  | idict {m a o} {kvs : List (Int × Value)} : (a == sysModules) = false → o.IsDictOf (intKind prog w) kvs → PD (RD kn) m kvs → OR cg kn as (.idict m) a [(a, o)]
  | iidict {m a o} {kvs : List (Int × Value)} : (a == sysModules) = false → o.IsDictOf (intKind prog w) kvs → PDD (prog := prog) (w := w) kn m kvs → OR cg kn as (.iidict m) a [(a, o)]
  | attrs {C m x dx es n} : cg C → ADs (prog := prog) (w := w) w.params kn as m es → OR cg kn as (.attrs C m) x [(x, instObj C dx), (dx, dictOf es n)]

theorem PDD.mono {kn kn' : Addr → Obj → Prop} (h : ∀ a o, kn a o → kn' a o) : ∀ {m kvs}, PDD (prog := prog) (w := w) kn m kvs → PDD (prog := prog) (w := w) kn' m kvs
  | _, _, .nil => .nil
  | _, _, .cons a b => .cons (a.mono h (List.prefix_refl _)) (b.mono h)
theorem ADs.mono {P : Params} {kn kn' : Addr → Obj → Prop} {as as' : List Addr} (h : ∀ a o, kn a o → kn' a o) (ha : as <+: as') : ∀ {m es}, ADs (prog := prog) (w := w) P kn as m es → ADs (prog := prog) (w := w) P kn' as' m es
  | _, _, .nil => .nil
  | _, _, .cons a b c d => .cons a b (c.mono h ha) (d.mono h ha)
theorem OR.mono {cg : Nat → Prop} {kn kn' : Addr → Obj → Prop} {as as' : List Addr} (h : ∀ a o, kn a o → kn' a o) (ha : as <+: as') {o : O} {a : Addr} {b : Led} (r : OR (prog := prog) (w := w) cg kn as o a b) : OR (prog := prog) (w := w) cg kn' as' o a b := by
  cases r with
  | list q => exact .list (q.mono h)
  | idict z p q => exact .idict z p (q.mono fun _ _ q => q.mono h)
  | iidict z p q => exact .iidict z p (q.mono h)
  | attrs z q => exact .attrs z (q.mono h ha)
theorem ADs.cut {P : Params} {kn : Addr → Obj → Prop} {as : List Addr} {n : Nat} : ∀ {m es}, undA n m = true → ADs (prog := prog) (w := w) P kn as m es → ADs (prog := prog) (w := w) P kn (as.take n) m es
  | _, _, _, .nil => .nil
  | (k, x) :: m, _, h, .cons a b c d => by
    have h' : x.und n = true ∧ undA n m = true := Bool.and_eq_true_iff.mp h
    exact .cons a b (c.cut x _ h'.1) (d.cut h'.2)
theorem OR.cut {cg : Nat → Prop} {kn : Addr → Obj → Prop} {as : List Addr} {n : Nat} {o : O} {a : Addr} {b : Led} (h : o.und n = true) (r : OR (prog := prog) (w := w) cg kn as o a b) : OR (prog := prog) (w := w) cg kn (as.take n) o a b := by
  cases r with
  | list q => exact .list q
  | idict z p q => exact .idict z p q
  | iidict z p q => exact .iidict z p q
  | attrs z q => exact .attrs z (q.cut h)
end
end Mine
end
section
open PySem PySem.W PyProof.Rows
set_option linter.unusedVariables false
namespace Mine

structure Cx where
  hb : Heap
  base : Heap
  outer : List Env
  h₀ : Heap
  L : Addr
  m : Str → Option Value
  fenv : Env
  env : Env
  A : Around
  cells : Led
  cm : Str → Option Value
  pri : Led
structure Gh where
  as : List Addr
  Z : Led
  mu : List Led

def ledOf (c : Cx) (g : Gh) : Led := c.cells ++ (c.pri ++ (g.mu.flatten ++ g.Z))
def NsO (o : Obj) (m : Str → Option Value) : Prop := ∃ es ep, o.data = .dict es ep ∧ StrKeys es ∧ ∀ name, nsFind es name = m name

structure Gl where
  prog : Program
  w : World
  K : Frag
  p : Program
  loose : List Str
  mg : Str → Option Value
  mb : Str → Option Value
  cg : Nat → Prop

variable (G : Gl)

structure Sim (c : Cx) (g : Gh) (h : List O) (H : Heap) : Prop where
  fr : Fr c.h₀ c.L H c.m
  news : News c.h₀ c.L H (ledOf c g)
  nd : ((ledOf c g).map (·.1)).Nodup
  la : g.as.length = h.length
  lm : g.mu.length = h.length
  objs : ∀ (i : Nat) (o : O) (a : Addr) (b : Led), h[i]? = some o → g.as[i]? = some a → g.mu[i]? = some b → OR (prog := G.prog) (w := G.w) G.cg (Kn c.hb g.Z) g.as o a b

structure Ok (c : Cx) : Prop where
  Kb : G.K.In c.hb
  stay : c.hb.StaysIn c.h₀
  K : G.K.In c.h₀
  T : TopRead G.p G.loose G.mg G.mb c.h₀
  below : ∃ A₀, Below A₀ c.base c.outer c.h₀
  frames : c.A.frames = some (c.fenv :: c.outer)
  ff : c.fenv.frame = some c.L
  fk : c.fenv.scope.kind = .function
  hh : c.A.handled = none
  ek : c.env.scope.kind = .function
  eg : c.env.globals = mainGlobals
  eb : c.env.builtins = builtinsNs
  cells : CellsAre c.cm c.fenv.cells c.cells

def Var (c : Cx) (x : Str) (v : Value) : Prop :=
  (c.env.kindOf x = some .local ∧ c.env.locals = c.L ∧ c.m x = some v) ∨
  (c.env.kindOf x = some .local ∧ ∃ o m', (c.env.locals, o) ∈ c.pri ∧ NsO o m' ∧ m' x = some v) ∨
  (c.env.kindOf x = some .cell ∧ ∃ a o, c.env.cells.lookup x = some a ∧ (a, o) ∈ c.cells ∧ o.data = .cell (some v))

abbrev kn (c : Cx) (g : Gh) := Kn c.hb g.Z
abbrev VV (c : Cx) (g : Gh) (v : V) (u : Value) : Prop := VR G.prog G.w (Kn c.hb g.Z) g.as v u
abbrev VVs (c : Cx) (g : Gh) (v : List V) (u : List Value) : Prop := VRs G.prog G.w (Kn c.hb g.Z) g.as v u
def lookable : NameKind → Bool
  | .local => true
  | .cell => true
  | .free => true
  | _ => false
def Vars (c : Cx) (g : Gh) (names : List (Str × NameKind)) (ρ : Rho) : Prop :=
  ∀ (i : Nat) (x : Str) (k : NameKind) (v : V), names[i]? = some (x, k) → lookable k = true → ρ[i]? = some (some v) → ∃ u, Var c x u ∧ VV G c g v u

structure Gh.le (g g' : Gh) : Prop where
  as : g.as <+: g'.as
  Z : ∀ p ∈ g.Z, p ∈ g'.Z
theorem Gh.le.refl (g : Gh) : g.le g := ⟨List.prefix_refl _, fun _ h => h⟩
theorem Gh.le.trans {a b c : Gh} (x : a.le b) (y : b.le c) : a.le c := ⟨x.as.trans y.as, fun p h => y.Z p (x.Z p h)⟩
theorem Kn.mono {hb : Heap} {Z Z' : Led} (h : ∀ p ∈ Z, p ∈ Z') : ∀ a o, Kn hb Z a o → Kn hb Z' a o := fun _ _ q => q.imp id (h _)
variable {G}
theorem VV.le {c : Cx} {g g' : Gh} {v : V} {u : Value} (l : g.le g') (h : VV G c g v u) : VV G c g' v u := VR.mono (Kn.mono l.Z) l.as _ _ h
theorem VVs.le {c : Cx} {g g' : Gh} {v : List V} {u : List Value} (l : g.le g') (h : VVs G c g v u) : VVs G c g' v u := VRs.mono (Kn.mono l.Z) l.as _ _ h
theorem Vars.le {c : Cx} {g g' : Gh} {names : List (Str × NameKind)} {ρ : Rho} (l : g.le g') (h : Vars G c g names ρ) : Vars G c g' names ρ :=
  fun i x k v a b d => let ⟨u, p, q⟩ := h i x k v a b d; ⟨u, p, VV.le l q⟩

structure Same (s s' : Shared) : Prop where
  os : s'.os = s.os
  gens : s'.gens = s.gens
theorem Same.refl (s : Shared) : Same s s := ⟨rfl, rfl⟩
theorem Same.trans {a b c : Shared} (x : Same a b) (y : Same b c) : Same a c := ⟨y.os.trans x.os, y.gens.trans x.gens⟩

variable (G)
/-- the tree ends well in the clean heap h' -/
def Ev {α : Type} (c : Cx) (t : Sem α) (g : Gh) (s : Shared) (h' : List O) (P : Gh → α → Prop) : Prop :=
  ∀ (E : Value → Shared → Prop) (Q : α → Shared → Prop), (∀ v s' g', Sim G c g' h' s'.heap → g.le g' → Same s s' → P g' v → Q v s') → wpAny (model G.prog G.w) c.A t Q E s
variable {G}
variable {α β : Type} {c : Cx} {g : Gh} {s : Shared} {h h' h₁ h₂ : List O}
theorem Ev.pure {v : α} {P : Gh → α → Prop} (S : Sim G c g h s.heap) (p : P g v) : Ev G c (pure v : Sem α) g s h P :=
  fun _ _ k => wpAny_pure (k _ _ _ S (.refl _) (.refl _) p)
theorem Ev.bind {t : Sem α} {f : α → Sem β} {P : Gh → α → Prop} {P' : Gh → β → Prop} (a : Ev G c t g s h₁ P)
    (b : ∀ v s₁ g₁, Sim G c g₁ h₁ s₁.heap → g.le g₁ → P g₁ v → Ev G c (f v) g₁ s₁ h₂ P') : Ev G c (t >>= f) g s h₂ P' :=
  fun E Q k => wpAny_bind (a E _ fun v s₁ g₁ S l q p => b v s₁ g₁ S l p E Q fun v' s' g' S' l' q' p' => k v' s' g' S' (l.trans l') (q.trans q') p')
theorem Ev.mono {t : Sem α} {P P' : Gh → α → Prop} (a : Ev G c t g s h' P) (b : ∀ g' v, g.le g' → P g' v → P' g' v) : Ev G c t g s h' P' :=
  fun E Q k => a E Q fun v s' g' S l q p => k v s' g' S l q (b g' v l p)
theorem Ev.stand {pos : Pos} {f : Unit → Sem β} {P : Gh → β → Prop} (a : Ev G c (f ()) g s h' P) : Ev G c (standAt pos >>= f) g s h' P :=
  fun E Q k => wpAny_bind (wpAny_standAt (a E Q k))
theorem Ev.holding {vs : List Value} {t : Sem α} {P : Gh → α → Prop} (a : Ev G c t g s h' P) : Ev G c (holding vs t) g s h' P :=
  fun E Q k => wpAny_holding (a E Q k)
theorem Ev.of {t : Sem α} {P : Gh → α → Prop} (a : ∀ (E : Value → Shared → Prop) (Q : α → Shared → Prop), (∀ v s' g', Sim G c g' h' s'.heap → g.le g' → Same s s' → P g' v → Q v s') → wpAny (model G.prog G.w) c.A t Q E s) : Ev G c t g s h' P := a

/-! the ledger -/
theorem Sim.keep (S : Sim G c g h s.heap) : ∀ b o, c.h₀.get? b = some o → s.heap.get? b = some o := S.fr.keep
theorem Sim.here (S : Sim G c g h s.heap) {p : Addr × Obj} (hp : p ∈ ledOf c g) : s.heap.get? p.1 = some p.2 := (S.news p hp).1
theorem Sim.inZ (S : Sim G c g h s.heap) {p : Addr × Obj} (hp : p ∈ g.Z) : p ∈ ledOf c g := by
  unfold ledOf; simp only [List.mem_append]; exact .inr (.inr (.inr hp))
theorem Sim.inMu (S : Sim G c g h s.heap) {p : Addr × Obj} {i : Nat} {b : Led} (hb : g.mu[i]? = some b) (hp : p ∈ b) : p ∈ ledOf c g := by
  unfold ledOf; simp only [List.mem_append]; exact .inr (.inr (.inl (List.mem_flatten.mpr ⟨b, List.mem_of_getElem? hb, hp⟩)))
theorem Sim.inPri (S : Sim G c g h s.heap) {p : Addr × Obj} (hp : p ∈ c.pri) : p ∈ ledOf c g := by
  unfold ledOf; simp only [List.mem_append]; exact .inr (.inl hp)
theorem Sim.inCells (S : Sim G c g h s.heap) {p : Addr × Obj} (hp : p ∈ c.cells) : p ∈ ledOf c g := by
  unfold ledOf; simp only [List.mem_append]; exact .inl hp
theorem Sim.known (O : Ok G c) (S : Sim G c g h s.heap) : ∀ a o, kn c g a o → s.heap.get? a = some o := fun a o q =>
  q.elim (fun e => S.keep _ _ (O.stay _ _ e)) fun e => S.here (p := (a, o)) (S.inZ e)
theorem Sim.rd (O : Ok G c) (S : Sim G c g h s.heap) {x : PyData} {v : Value} (r : RD (kn c g) x v) : RD (fun a o => s.heap.get? a = some o) x v := r.mono (S.known O)
theorem Sim.block (S : Sim G c g h s.heap) {i : Nat} {o : O} (ho : h[i]? = some o) : ∃ a b, g.as[i]? = some a ∧ g.mu[i]? = some b ∧ OR (prog := G.prog) (w := G.w) G.cg (kn c g) g.as o a b := by
  have hi := (List.getElem?_eq_some_iff.mp ho).1
  have h1 : g.as[i]? = some (g.as[i]'(S.la ▸ hi)) := List.getElem?_eq_getElem _
  have h2 : g.mu[i]? = some (g.mu[i]'(S.lm ▸ hi)) := List.getElem?_eq_getElem _
  exact ⟨_, _, h1, h2, S.objs i o _ _ ho h1 h2⟩
theorem Sim.blockAt (S : Sim G c g h s.heap) {i : Nat} {o : O} {a : Addr} (ho : h[i]? = some o) (ha : g.as[i]? = some a) : ∃ b, g.mu[i]? = some b ∧ OR (prog := G.prog) (w := G.w) G.cg (kn c g) g.as o a b := by
  obtain ⟨a', b, h1, h2, h3⟩ := S.block ho
  rw [ha] at h1; cases h1
  exact ⟨b, h2, h3⟩

/-- a new thing, never to be changed -/
theorem Sim.freeze {H : Heap} {D : Addr} {o : Obj} (S : Sim G c g h s.heap) (F : Fr c.h₀ c.L H c.m) (N : News c.h₀ c.L H ((D, o) :: ledOf c g)) (hD : ∀ p ∈ ledOf c g, p.1 < D) :
    Sim G c ⟨g.as, (D, o) :: g.Z, g.mu⟩ h H where
  fr := F
  news := fun p hp => N p (by
    unfold ledOf at hp ⊢
    simp only [List.mem_append, List.mem_cons] at hp ⊢
    grind)
  nd := by
    have : (ledOf c ⟨g.as, (D, o) :: g.Z, g.mu⟩).Perm ((D, o) :: ledOf c g) := by
      unfold ledOf
      simp only [← List.append_assoc]
      exact List.perm_middle
    refine (this.map (·.1)).nodup_iff.mpr ?_
    rw [List.map_cons, List.nodup_cons]
    exact ⟨fun q => by obtain ⟨p, hp, e⟩ := List.mem_map.mp q; exact absurd (hD p hp) (by rw [show p.1 = D from e]; exact Nat.lt_irrefl _), S.nd⟩
  la := S.la
  lm := S.lm
  objs := fun i o' a b h1 h2 h3 => (S.objs i o' a b h1 h2 h3).mono (Kn.mono fun _ q => .tail _ q) (List.prefix_refl _)
theorem Gh.le_freeze (g : Gh) (p : Addr × Obj) : g.le ⟨g.as, p :: g.Z, g.mu⟩ := ⟨List.prefix_refl _, fun _ q => .tail _ q⟩

/-- a new thing that may change -/
theorem Sim.push {H : Heap} {D : Addr} {b : Led} {o : O} (S : Sim G c g h s.heap) (F : Fr c.h₀ c.L H c.m) (N : News c.h₀ c.L H (b ++ ledOf c g)) (hb : ((b ++ ledOf c g).map (·.1)).Nodup)
    (r : OR (prog := G.prog) (w := G.w) G.cg (kn c g) (g.as ++ [D]) o D b) :
    Sim G c ⟨g.as ++ [D], g.Z, g.mu ++ [b]⟩ (h ++ [o]) H where
  fr := F
  news := fun p hp => N p (by
    unfold ledOf at hp ⊢
    simp only [List.mem_append, List.flatten_append, List.flatten_cons, List.flatten_nil, List.append_nil] at hp ⊢
    grind)
  nd := by
    have : (ledOf c ⟨g.as ++ [D], g.Z, g.mu ++ [b]⟩).Perm (b ++ ledOf c g) := by
      unfold ledOf
      simp only [List.flatten_append, List.flatten_cons, List.flatten_nil, List.append_nil, ← List.append_assoc]
      refine List.Perm.append_right _ ?_
      refine List.perm_append_comm.trans ?_
      simp only [List.append_assoc]
      exact List.Perm.refl _
    exact (this.map (·.1)).nodup_iff.mpr hb
  la := by simp [S.la]
  lm := by simp [S.lm]
  objs := fun i o' a b' h1 h2 h3 => by
    by_cases hi : i < h.length
    · rw [List.getElem?_append_left hi] at h1
      rw [List.getElem?_append_left (S.la ▸ hi)] at h2
      rw [List.getElem?_append_left (S.lm ▸ hi)] at h3
      exact (S.objs i o' a b' h1 h2 h3).mono (fun _ _ q => q) (List.prefix_append _ _)
    · have hl := (List.getElem?_eq_some_iff.mp h1).1
      have : i = h.length := by simp at hl; omega
      subst this
      simp at h1
      rw [List.getElem?_append_right (by rw [S.la]; exact Nat.le_refl _)] at h2
      rw [List.getElem?_append_right (by rw [S.lm]; exact Nat.le_refl _)] at h3
      simp [S.la] at h2
      simp [S.lm] at h3
      subst h1 h2 h3
      exact r
theorem Gh.le_push (g : Gh) (D : Addr) (b : Led) : g.le ⟨g.as ++ [D], g.Z, g.mu ++ [b]⟩ := ⟨List.prefix_append _ _, fun _ q => q⟩

/-- one address put anew -/
def rep (d : Addr) (o' : Obj) (l : Led) : Led := l.map fun p => if p.1 = d then (d, o') else p
theorem rep_fst (d : Addr) (o' : Obj) (l : Led) : (rep d o' l).map (·.1) = l.map (·.1) := by
  induction l with
  | nil => rfl
  | cons p l ih =>
    simp only [rep, List.map_cons, List.cons.injEq] at ih ⊢
    refine ⟨?_, ih⟩
    by_cases h : p.1 = d
    · simp [h]
    · simp [h]
theorem rep_id {d : Addr} {o' : Obj} {l : Led} (h : ∀ p ∈ l, p.1 ≠ d) : rep d o' l = l := by
  induction l with
  | nil => rfl
  | cons p l ih =>
    have h1 := h p (.head _)
    simp only [rep, List.map_cons, if_neg h1, List.cons.injEq, true_and] at ih ⊢
    exact ih fun q hq => h q (.tail _ hq)
theorem rep_append (d : Addr) (o' : Obj) (l k : Led) : rep d o' (l ++ k) = rep d o' l ++ rep d o' k := List.map_append
theorem rep_flatten (d : Addr) (o' : Obj) (l : List Led) : rep d o' l.flatten = (l.map (rep d o')).flatten := by
  induction l with
  | nil => rfl
  | cons p l ih => simp [rep_append, ih]
theorem rep_mem {d : Addr} {o' : Obj} {l : Led} {p : Addr × Obj} (hp : p ∈ rep d o' l) : p = (d, o') ∨ (p ∈ l ∧ p.1 ≠ d) := by
  obtain ⟨q, hq, rfl⟩ := List.mem_map.mp hp
  by_cases h : q.1 = d
  · exact .inl (by simp [h])
  · rw [if_neg h]; exact .inr ⟨hq, h⟩
/-- the ledger with one thing ahead -/
theorem News.ahead {h₀ H : Heap} {L : Addr} {l : Led} {d : Addr} {o : Obj} (N : News h₀ L H l) (hd : (d, o) ∈ l) : News h₀ L H ((d, o) :: l.filter fun p => p.1 ≠ d) := fun p hp => by
  rcases List.mem_cons.mp hp with rfl | hp
  · exact N _ hd
  · exact N p (List.mem_filter.mp hp).1
theorem upd_ahead {l : Led} {d : Addr} {o : Obj} : UpdF d o ((d, o) :: l.filter fun p => p.1 ≠ d) (fun o' => (d, o') :: l.filter fun p => p.1 ≠ d) :=
  .head fun p hp => by simpa using (List.mem_filter.mp hp).2
theorem News.back {h₀ H : Heap} {L : Addr} {l : Led} {d : Addr} {o' : Obj} (N : News h₀ L H ((d, o') :: l.filter fun p => p.1 ≠ d)) : News h₀ L H (rep d o' l) := fun p hp => by
  rcases rep_mem hp with rfl | ⟨h1, h2⟩
  · exact N _ (.head _)
  · exact N _ (.tail _ (List.mem_filter.mpr ⟨h1, by simpa using h2⟩))

theorem nodup_apart {a b : Led} (h : ((a ++ b).map (·.1)).Nodup) {p q : Addr × Obj} (hp : p ∈ a) (hq : q ∈ b) : p.1 ≠ q.1 := by
  rw [List.map_append, List.nodup_append] at h
  exact h.2.2 _ (List.mem_map_of_mem hp) _ (List.mem_map_of_mem hq)
theorem nodup_blocks {mu : List Led} (h : (mu.flatten.map (·.1)).Nodup) {i j : Nat} {b b' : Led} (hi : mu[i]? = some b) (hj : mu[j]? = some b') (hne : i ≠ j) {p q : Addr × Obj} (hp : p ∈ b) (hq : q ∈ b') : p.1 ≠ q.1 := by
  induction mu generalizing i j with
  | nil => simp at hi
  | cons m mu ih =>
    rw [List.flatten_cons] at h
    cases i with
    | zero =>
      cases j with
      | zero => exact absurd rfl hne
      | succ j =>
        simp at hi hj
        subst hi
        exact nodup_apart h hp (List.mem_flatten.mpr ⟨b', List.mem_of_getElem? hj, hq⟩)
    | succ i =>
      cases j with
      | zero =>
        simp at hi hj
        subst hj
        exact (nodup_apart h hq (List.mem_flatten.mpr ⟨b, List.mem_of_getElem? hi, hp⟩)).symm
      | succ j =>
        simp at hi hj
        rw [List.map_append, List.nodup_append] at h
        exact ih h.2.1 hi hj (fun e => hne (by rw [e]))

theorem Sim.apartCells (S : Sim G c g h s.heap) {p q : Addr × Obj} (hp : p ∈ c.cells) (hq : q ∈ c.pri ++ (g.mu.flatten ++ g.Z)) : p.1 ≠ q.1 := nodup_apart S.nd hp hq
theorem Sim.nd1 (S : Sim G c g h s.heap) : ((c.pri ++ (g.mu.flatten ++ g.Z)).map (·.1)).Nodup := by
  have := S.nd; unfold ledOf at this; rw [List.map_append, List.nodup_append] at this; exact this.2.1
theorem Sim.nd2 (S : Sim G c g h s.heap) : ((g.mu.flatten ++ g.Z).map (·.1)).Nodup := by
  have := S.nd1; rw [List.map_append, List.nodup_append] at this; exact this.2.1
theorem Sim.nd3 (S : Sim G c g h s.heap) : (g.mu.flatten.map (·.1)).Nodup := by
  have := S.nd2; rw [List.map_append, List.nodup_append] at this; exact this.1

theorem rep_mu {mu : List Led} (h : (mu.flatten.map (·.1)).Nodup) {i : Nat} {b : Led} (hi : mu[i]? = some b) {d : Addr} {o o' : Obj} (hd : (d, o) ∈ b) : mu.map (rep d o') = mu.set i (rep d o' b) := by
  apply List.ext_getElem?
  intro j
  rw [List.getElem?_map, List.getElem?_set]
  by_cases hij : i = j
  · subst hij
    rw [hi]
    simp [(List.getElem?_eq_some_iff.mp hi).1]
  · rw [if_neg hij]
    cases hj : mu[j]? with
    | none => rfl
    | some b' => exact congrArg some (rep_id fun p hp => (nodup_blocks h hi hj hij hd hp).symm)

/-- a changeable thing put anew -/
theorem Sim.update {H : Heap} {i : Nat} {b : Led} {d : Addr} {o o' : Obj} {x x' : O} {a : Addr} (S : Sim G c g h s.heap) (hi : g.mu[i]? = some b) (hd : (d, o) ∈ b) (hx : h[i]? = some x) (ha : g.as[i]? = some a)
    (F : Fr c.h₀ c.L H c.m) (N : News c.h₀ c.L H ((d, o') :: (ledOf c g).filter fun p => p.1 ≠ d)) (r : OR (prog := G.prog) (w := G.w) G.cg (kn c g) g.as x' a (rep d o' b)) :
    Sim G c ⟨g.as, g.Z, g.mu.set i (rep d o' b)⟩ (h.set i x') H := by
  have hmem : (d, o) ∈ g.mu.flatten := List.mem_flatten.mpr ⟨b, List.mem_of_getElem? hi, hd⟩
  have e : ledOf c ⟨g.as, g.Z, g.mu.set i (rep d o' b)⟩ = rep d o' (ledOf c g) := by
    unfold ledOf
    rw [rep_append, rep_append, rep_append, rep_flatten]
    rw [rep_mu S.nd3 hi hd]
    rw [rep_id (l := c.cells) fun p hp => S.apartCells hp (List.mem_append_right _ (List.mem_append_left _ hmem)), rep_id (l := c.pri) fun p hp => nodup_apart S.nd1 hp (List.mem_append_left _ hmem),
      rep_id (l := g.Z) fun p hp => (nodup_apart S.nd2 hmem hp).symm]
  refine ⟨F, by rw [e]; exact News.back N, by rw [e, rep_fst]; exact S.nd, by simp [S.la], by simp [S.lm], fun j o₁ a₁ b₁ h1 h2 h3 => ?_⟩
  dsimp only at h2 h3 ⊢
  rw [List.getElem?_set] at h1 h3
  by_cases hij : i = j
  · subst hij
    rw [if_pos rfl] at h1 h3
    rw [if_pos (List.getElem?_eq_some_iff.mp hx).1] at h1
    rw [if_pos (List.getElem?_eq_some_iff.mp hi).1] at h3
    cases h1; cases h3
    rw [ha] at h2; cases h2
    exact r
  · rw [if_neg hij] at h1 h3
    exact S.objs j o₁ a₁ b₁ h1 h2 h3
theorem Gh.le_set (g : Gh) (i : Nat) (b : Led) : g.le ⟨g.as, g.Z, g.mu.set i b⟩ := ⟨List.prefix_refl _, fun _ q => q⟩
theorem Sim.lt (S : Sim G c g h s.heap) : ∀ p ∈ ledOf c g, p.1 < s.heap.objs.size := fun p hp => Heap.lt_size (S.news p hp).1
end Mine
end
section
open PySem PySem.W PyProof.Rows PySem.Calls
set_option linter.unusedVariables false
namespace Mine

theorem natsEq_iff : ∀ a b : List Nat, natsEq a b = true ↔ a = b
  | [], [] => by simp [natsEq]
  | [], _ :: _ => by simp [natsEq]
  | _ :: _, [] => by simp [natsEq]
  | x :: r, y :: q => by
    rw [natsEq, Bool.and_eq_true, natsEq_iff r q]
    constructor
    · rintro ⟨a, rfl⟩; rw [Nat.eq_of_beq_eq_true a]
    · intro e; cases e; exact ⟨Nat.beq_refl x, rfl⟩
theorem strEq_iff (a b : Str) : strEq a b = true ↔ a = b := by
  obtain ⟨⟨l⟩⟩ := a
  obtain ⟨⟨k⟩⟩ := b
  show natsEq l k = true ↔ _
  rw [natsEq_iff]
  constructor
  · intro e; rw [e]
  · intro e; cases e; rfl
theorem strEq_false {a b : Str} (h : strEq a b = false) : (a == b) = false := by
  rw [beq_eq_false_iff_ne]
  intro e
  rw [(strEq_iff a b).mpr e] at h
  cases h
theorem intEq_iff (a b : Int) : intEq a b = true ↔ a = b := by
  cases a <;> cases b <;> simp [intEq]
  omega

variable {G : Gl} {α β : Type} {c : Cx} {g : Gh} {s : Shared} {h h' h₁ h₂ : List O}

theorem reserved_debug {x : Str} (hr : reserved x = false) : (x == ("__debug__" : Str)) = false := by
  unfold reserved at hr
  simp only [Bool.or_eq_false_iff] at hr
  exact strEq_false hr.1.1.1
theorem reserved_super {x : Str} (hr : reserved x = false) : x ≠ ("super" : Str) := by
  unfold reserved at hr
  simp only [Bool.or_eq_false_iff] at hr
  intro e
  rw [e] at hr
  revert hr
  decide

theorem ev_name {x : Str} {pos : Pos} {u : Value} {P : Gh → Value → Prop} (O : Ok G c) (S : Sim G c g h s.heap) (hv : Var c x u) (hr : reserved x = false) (p : P g u) : Ev G c (eval (.Name x pos) c.env) g s h P := fun E Q k => by
  have q : Q u s := k _ _ _ S (.refl _) (.refl _) p
  rcases hv with ⟨h1, h2, h3⟩ | ⟨h1, o, m', h2, h3, h4⟩ | ⟨h1, a, o, h2, h3, h4⟩
  · exact wpAny_Name (wpAny_loadName_local O.ek h1 (by rw [h2]; exact S.fr.ns) h3 q) (reserved_debug hr)
  · obtain ⟨es, ep, e1, e2, e3⟩ := h3
    exact wpAny_Name (wpAny_loadName_local O.ek h1 ⟨o, es, ep, S.here (p := (_, o)) (S.inPri h2), e1, e2, e3⟩ h4 q) (reserved_debug hr)
  · exact wpAny_Name (wpAny_loadName_cell O.ek h1 h2 ⟨o, S.here (p := (a, o)) (S.inCells h3), h4⟩ q) (reserved_debug hr)

theorem ev_global {x : Str} {pos : Pos} {u : Value} {P : Gh → Value → Prop} (O : Ok G c) (S : Sim G c g h s.heap) (hk : c.env.kindOf x = some .globalImplicit) (hr : reserved x = false)
    (e : nsIn G.K mainGlobals x = some (some u)) (p : P g u) : Ev G c (eval (.Name x pos) c.env) g s h P := fun E Q k =>
  nameG_K S.fr O.K O.T e (k _ _ _ S (.refl _) (.refl _) p) O.eg O.ek hk (reserved_debug hr)
theorem ev_builtin {x : Str} {pos : Pos} {u : Value} {P : Gh → Value → Prop} (O : Ok G c) (S : Sim G c g h s.heap) (hk : c.env.kindOf x = some .globalImplicit) (hr : reserved x = false)
    (e : nsIn G.K mainGlobals x = some none) (hb : bootBuiltins x = some u) (hn : x ≠ "__name__") (p : P g u) : Ev G c (eval (.Name x pos) c.env) g s h P := fun E Q k =>
  Name_function_global O.ek hk (loadGlobal_builtin (env := c.env) (by rw [O.eg]; exact O.T.g.keeps S.fr.keep) (mg_none_of O.K O.T.g e) (by rw [O.eb]; exact O.T.b.keeps S.fr.keep) ((O.T.builtins x hn).trans hb)
    (k _ _ _ S (.refl _) (.refl _) p)) (reserved_debug hr)

theorem ev_int {i : Int} {k : Nat} {pos : Pos} {P : Gh → Value → Prop} (S : Sim G c g h s.heap) (p : ∀ t, P g (.int i t)) : Ev G c (eval (.Constant (.int i) k pos) c.env) g s h P := fun E Q q =>
  wpAny_mkInt (q (.int i s.toks) { s with toks := s.toks + 1 } g S (.refl _) ⟨rfl, rfl⟩ (p _))
theorem ev_str {x : Str} {k : Nat} {pos : Pos} {P : Gh → Value → Prop} (S : Sim G c g h s.heap) (p : ∀ t, P g (.str x t)) : Ev G c (eval (.Constant (.str x) k pos) c.env) g s h P := fun E Q q =>
  Constant_str (q (.str x s.toks) { s with toks := s.toks + 1 } g S (.refl _) ⟨rfl, rfl⟩ (p _))
theorem ev_none {k : Nat} {pos : Pos} {P : Gh → Value → Prop} (S : Sim G c g h s.heap) (p : P g .none) : Ev G c (eval (.Constant .none k pos) c.env) g s h P := Ev.pure S p
theorem ev_bool {b : Bool} {k : Nat} {pos : Pos} {P : Gh → Value → Prop} (S : Sim G c g h s.heap) (p : P g (.bool b)) : Ev G c (eval (.Constant (.bool b) k pos) c.env) g s h P := Ev.pure S p

theorem Sim.push1 {H : Heap} {D : Addr} {ob : Obj} {o : O} (S : Sim G c g h s.heap) (F : Fr c.h₀ c.L H c.m) (N : News c.h₀ c.L H ((D, ob) :: ledOf c g)) (hD : ∀ p ∈ ledOf c g, p.1 < D)
    (r : OR (prog := G.prog) (w := G.w) G.cg (kn c g) (g.as ++ [D]) o D [(D, ob)]) : Sim G c ⟨g.as ++ [D], g.Z, g.mu ++ [[(D, ob)]]⟩ (h ++ [o]) H :=
  S.push (b := [(D, ob)]) F N (by
    rw [List.cons_append, List.nil_append, List.map_cons, List.nodup_cons]
    exact ⟨fun z => by obtain ⟨p, hp, e⟩ := List.mem_map.mp z; exact absurd (hD p hp) (by rw [show p.1 = D from e]; exact Nat.lt_irrefl _), S.nd⟩) r

/-! displays -/
theorem starEach_cons {e : PySem.Expr} {rest : List PySem.Expr} {env : Env} (hp : plainArg e = true) : starEach (e :: rest) env = (false, eval e env) :: starEach rest env := by
  cases e <;> first | rfl | cases hp
theorem starEach_plain : ∀ {es : List PySem.Expr} {env : Env} (pos : Pos), es.all plainArg = true → (backTo pos (starEach es env)).any (·.1) = false
  | [], _, _, _ => rfl
  | e :: es, env, pos, hp => by
    have hp' : plainArg e = true ∧ es.all plainArg = true := by simpa using hp
    rw [starEach_cons hp'.1]
    show (false || (backTo pos (starEach es env)).any (·.1)) = false
    rw [starEach_plain pos hp'.2]; rfl

/-- what is known of the evaluation of x: from the clean heap h to v in h' -/
def EvX (G : Gl) (c : Cx) (names : List (Str × NameKind)) (x : PySem.Expr) (ρ : Rho) (h : List O) (v : V) (h' : List O) : Prop :=
  ∀ g s, Sim G c g h s.heap → Vars G c g names ρ → Ev G c (eval x c.env) g s h' (fun g' u => VV G c g' v u)
/-- a chain of them -/
inductive EvXs (G : Gl) (c : Cx) (names : List (Str × NameKind)) (ρ : Rho) : List PySem.Expr → List O → List V → List O → Prop
  | nil (h : List O) : EvXs G c names ρ [] h [] h
  | cons (x : PySem.Expr) (xs : List PySem.Expr) (h : List O) (v : V) (h₁ : List O) (vs : List V) (h₂ : List O) : EvX G c names x ρ h v h₁ → EvXs G c names ρ xs h₁ vs h₂ → EvXs G c names ρ (x :: xs) h (v :: vs) h₂

theorem ev_spliced {names : List (Str × NameKind)} {ρ : Rho} {pos : Pos} : ∀ {xs : List PySem.Expr} {h h' : List O} {vs : List V} {g : Gh} {s : Shared}, EvXs G c names ρ xs h vs h' → xs.all plainArg = true → Sim G c g h s.heap → Vars G c g names ρ →
    Ev G c (spliced (backTo pos (starEach xs c.env))) g s h' (fun g' us => VVs G c g' vs us)
  | _, _, _, _, g, s, .nil _, _, S, _ => Ev.pure S .nil
  | x :: xs, h, h', _, g, s, .cons _ _ _ v _ vs _ a b, hp, S, Vs => fun E Q k => by
    have hp' : plainArg x = true ∧ xs.all plainArg = true := by simpa using hp
    rw [starEach_cons hp'.1]
    refine spliced_cons (a g s S Vs E _ fun u s₁ g₁ S₁ l₁ q₁ p₁ => ?_)
    exact ev_spliced (pos := pos) b hp'.2 S₁ (Vs.le l₁) E _ fun us s₂ g₂ S₂ l₂ q₂ p₂ => k _ _ _ S₂ (l₁.trans l₂) (q₁.trans q₂) (.cons (VV.le l₂ p₁) p₂)

theorem EvXs.length {names : List (Str × NameKind)} {ρ : Rho} {xs : List PySem.Expr} {vs : List V} (r : EvXs G c names ρ xs h vs h') : vs.length = xs.length := by
  induction r with
  | nil => rfl
  | cons _ _ _ _ _ _ _ _ _ ih => simp [ih]

theorem ev_tuple {names : List (Str × NameKind)} {ρ : Rho} {xs : List PySem.Expr} {k : Nat} {pos : Pos} {vs : List V} (S : Sim G c g h s.heap) (Vs : Vars G c g names ρ) (r : EvXs G c names ρ xs h vs h') (hp : xs.all plainArg = true)
    (hl : xs.length ≤ 1000) : Ev G c (eval (.Tuple xs k pos) c.env) g s h' (fun g' u => VV G c g' (mkTup vs) u) := fun E Q q =>
  Tuple_ (ev_spliced r hp S Vs E _ fun us s₁ g₁ S₁ l₁ q₁ p₁ => newTuple_N S₁.fr S₁.news (fun h'' F' N' => by
    refine q _ _ _ (S₁.freeze F' N' S₁.lt) (l₁.trans (Gh.le_freeze _ _)) ⟨q₁.os, q₁.gens⟩ ?_
    unfold mkTup
    have p₂ : VVs G c ⟨g₁.as, (s₁.heap.objs.size, { cls := .type "tuple", data := .seq us.toArray }) :: g₁.Z, g₁.mu⟩ vs us := VVs.le (Gh.le_freeze _ _) p₁
    cases e : allD vs with
    | none => exact .tupv (.inr (.head _)) rfl rfl (by simpa using p₂)
    | some xs => exact .d (.tuple (.inr (.head _)) rfl rfl (by simpa using p₂.toD e))) (by
      rw [sizeLine_eq, p₁.length, r.length]; omega))

theorem ev_list {names : List (Str × NameKind)} {ρ : Rho} {xs : List PySem.Expr} {pos : Pos} {vs : List V} {mu : Bool} {v : V} {h'' : List O} (S : Sim G c g h s.heap) (Vs : Vars G c g names ρ) (r : EvXs G c names ρ xs h vs h') (hp : xs.all plainArg = true)
    (hl : xs.length ≤ 1000) (hm : mkList mu vs h' = some (v, h'')) : Ev G c (eval (.List xs pos) c.env) g s h'' (fun g' u => VV G c g' v u) := fun E Q q =>
  List_ (ev_spliced r hp S Vs E _ fun us s₁ g₁ S₁ l₁ q₁ p₁ => newList_N S₁.fr S₁.news (fun h2 F' N' => by
    unfold mkList at hm
    split at hm
    · rename_i xs e
      split at hm
      · cases hm
        exact q _ _ _ (S₁.push1 (D := s₁.heap.objs.size) (ob := listOf us.toArray 0) F' N' S₁.lt (.list (p₁.toD e))) (l₁.trans (Gh.le_push _ _ _)) ⟨q₁.os, q₁.gens⟩ (.loc (by rw [← S₁.la]; simp))
      · cases hm
        refine q _ _ _ (S₁.freeze F' N' S₁.lt) (l₁.trans (Gh.le_freeze _ _)) ⟨q₁.os, q₁.gens⟩ ?_
        have p₂ : VVs G c ⟨g₁.as, (s₁.heap.objs.size, { cls := .type "list", data := .seq us.toArray }) :: g₁.Z, g₁.mu⟩ vs us := VVs.le (Gh.le_freeze _ _) p₁
        exact .d (.list (.inr (.head _)) rfl rfl (by simpa using p₂.toD e))
    · split at hm
      · cases hm
      · cases hm
        refine q _ _ _ (S₁.freeze F' N' S₁.lt) (l₁.trans (Gh.le_freeze _ _)) ⟨q₁.os, q₁.gens⟩ ?_
        have p₂ : VVs G c ⟨g₁.as, (s₁.heap.objs.size, { cls := .type "list", data := .seq us.toArray }) :: g₁.Z, g₁.mu⟩ vs us := VVs.le (Gh.le_freeze _ _) p₁
        exact .lstv (.inr (.head _)) rfl rfl (by simpa using p₂)) (by
      rw [sizeLine_eq, p₁.length, r.length]; omega))
end Mine
end
section
open PySem PySem.W PyProof.Rows PySem.Calls
set_option linter.unusedVariables false
namespace Mine
variable {G : Gl} {α β : Type} {c : Cx} {g : Gh} {s : Shared} {h h' h₁ h₂ : List O}

theorem rd_int {x : V} {u : Value} {i : Int} (r : VV G c g x u) (e : rd h x = .d (.int i)) : ∃ t, u = .int i t := by
  unfold rd at e
  split at e
  · split at e <;> cases e
  · subst e
    cases r with | d q => cases q; exact ⟨_, rfl⟩
theorem rd_d {x : V} {u : Value} {d : PyData} (r : VV G c g x u) (e : x = .d d) : RD (kn c g) d u := by
  subst e
  cases r with | d q => exact q
theorem rd_tuple' {x : V} {xs : List PyData} (e : rd h x = .d (.tuple xs)) : x = .d (.tuple xs) := by
  unfold rd at e
  split at e
  · split at e <;> cases e
  · exact e
theorem rd_tuple {x : V} {u : Value} {xs : List PyData} (O : Ok G c) (S : Sim G c g h s.heap) (r : VV G c g x u) (e : rd h x = .d (.tuple xs)) :
    ∃ a vs, u = .ref a ∧ IsTup s.heap a vs.toArray ∧ RDs (kn c g) xs vs := by
  unfold rd at e
  split at e
  · split at e <;> cases e
  · subst e
    cases r with
    | d q =>
      cases q with
      | tuple k1 k2 k3 k4 => rename_i a o vs n; exact ⟨a, vs.toList, rfl, ⟨o, S.known O _ _ k1, k2, n, by simpa using k3⟩, k4⟩
theorem rd_list {x : V} {u : Value} {xs : List PyData} (O : Ok G c) (S : Sim G c g h s.heap) (r : VV G c g x u) (e : rd h x = .d (.list xs)) :
    ∃ a vs, u = .ref a ∧ s.heap.IsList a vs.toArray ∧ RDs (kn c g) xs vs := by
  unfold rd at e
  split at e
  · rename_i n
    cases r with
    | loc ha =>
      rename_i a
      split at e
      · rename_i l hl
        cases e
        obtain ⟨b, hb, rr⟩ := S.blockAt hl ha
        cases rr with
        | list q => exact ⟨a, _, rfl, ⟨_, S.here (S.inMu hb (.head _)), rfl, _, rfl⟩, q⟩
      · cases e
      · cases e
  · subst e
    cases r with
    | d q =>
      cases q with
      | list k1 k2 k3 k4 => rename_i a o vs n; exact ⟨a, vs.toList, rfl, ⟨o, S.known O _ _ k1, k2, n, by simpa using k3⟩, k4⟩
theorem rd_idict {x : V} {u : Value} {m : List (Int × PyData)} (O : Ok G c) (S : Sim G c g h s.heap) (r : VV G c g x u) (e : rd h x = .idict m) :
    ∃ a o kvs, u = .ref a ∧ (a == sysModules) = false ∧ s.heap.get? a = some o ∧ o.IsDictOf (intKind G.prog G.w) kvs ∧ PD (RD (kn c g)) m kvs := by
  unfold rd at e
  split at e
  · rename_i n
    cases r with
    | loc ha =>
      rename_i a
      split at e
      · cases e
      · rename_i l hl
        cases e
        obtain ⟨b, hb, rr⟩ := S.blockAt hl ha
        cases rr with
        | idict z p q => exact ⟨a, _, _, rfl, z, S.here (S.inMu hb (.head _)), p, q⟩
      · cases e
  · subst e
    cases r with
    | idict k1 z k2 k3 => exact ⟨_, _, _, rfl, z, S.known O _ _ k1, k2, k3⟩
/-- a thing that reads as data reads so in the heap -/
theorem rd_reads {x : V} {u : Value} {d : PyData} (O : Ok G c) (S : Sim G c g h s.heap) (r : VV G c g x u) (e : rd h x = .d d) : ∃ as, Reads s.heap u d as := by
  cases d with
  | list xs =>
    obtain ⟨a, vs, rfl, ⟨o, h1, h2, n, h3⟩, q⟩ := rd_list O S r e
    obtain ⟨as, q'⟩ := RDs.reads (q.mono (S.known O))
    exact ⟨_, .list h1 h2 h3 (by simpa using q')⟩
  | _ =>
    unfold rd at e
    split at e
    · split at e <;> cases e
    · subst e
      cases r with | d q => exact RD.reads (S.rd O q)

mutual
theorem deq_eqv : ∀ a b : PyData, a.canLay0 = true → deq a b = PyData.eqv a b
  | .none, b, _ => by cases b <;> simp [deq, PyData.eqv]
  | .bool x, b, _ => by
    cases b <;> simp only [deq, PyData.eqv]
    rename_i j
    by_cases hj : (if x = true then (1 : Int) else 0) = j
    · rw [(intEq_iff _ _).mpr hj]; simp [hj]
    · cases hh : intEq (if x = true then 1 else 0) j
      · simp [hj]
      · exact absurd ((intEq_iff _ _).mp hh) hj
  | .int x, b, _ => by
    cases b with
    | bool y =>
      simp only [deq, PyData.eqv]
      by_cases hj : x = (if y = true then (1 : Int) else 0)
      · rw [(intEq_iff _ _).mpr hj]; simp [hj]
      · cases hh : intEq x (if y = true then 1 else 0)
        · simp [hj]
        · exact absurd ((intEq_iff _ _).mp hh) hj
    | int y =>
      simp only [deq, PyData.eqv]
      by_cases hj : x = y
      · rw [(intEq_iff _ _).mpr hj]; simp [hj]
      · cases hh : intEq x y
        · simp [hj]
        · exact absurd ((intEq_iff _ _).mp hh) hj
    | _ => simp [deq, PyData.eqv]
  | .str x, b, _ => by
    cases b with
    | str y =>
      simp only [deq, PyData.eqv]
      by_cases hj : x = y
      · rw [(strEq_iff _ _).mpr hj]; simp [hj]
      · cases hh : strEq x y
        · simp [hj]
        · exact absurd ((strEq_iff _ _).mp hh) hj
    | _ => simp [deq, PyData.eqv]
  | .list xs, b, q => by
    cases b <;> simp only [deq, PyData.eqv]
    exact deqs_eqv xs _ q
  | .tuple xs, b, q => by
    cases b <;> simp only [deq, PyData.eqv]
    exact deqs_eqv xs _ q
  | .dict _, _, q => nomatch q
theorem deqs_eqv : ∀ a b : List PyData, PyData.canLayAll0 a = true → deqs a b = PyData.eqvAll a b
  | [], b, _ => by cases b <;> simp [deqs, PyData.eqvAll]
  | x :: xs, b, q => by
    have q' : x.canLay0 = true ∧ PyData.canLayAll0 xs = true := by simpa [PyData.canLayAll0] using q
    cases b with
    | nil => simp [deqs, PyData.eqvAll]
    | cons y ys => simp only [deqs, PyData.eqvAll]; rw [deq_eqv x y q'.1, deqs_eqv xs ys q'.2]
end
theorem lay_of {d : PyData} (q : lay d = true) : d.canLay0 = true ∧ d.depth ≤ 60 := by
  unfold lay at q
  simpa using q
theorem anyEq_eq {x : PyData} : ∀ {ys : List PyData}, PyData.canLayAll0 ys = true → anyEq x ys = ys.any fun y => PyData.eqv y x
  | [], _ => rfl
  | y :: r, q => by
    have q' : y.canLay0 = true ∧ PyData.canLayAll0 r = true := by simpa [PyData.canLayAll0] using q
    rw [anyEq, List.any_cons, deq_eqv y x q'.1, anyEq_eq q'.2]

/-- room for what the library asks -/
def Room (n : Nat) (A : Around) : Prop := A.depth + 2 * n < recursionLimit ∧ A.units + 20 * n + 200 < cLine

section
variable {op : Operator} {x y : V} {a b : Value} {v : V}
theorem small_bits {i : Int} (q : small i = true) : Builtin.Int.intBits i ≤ 64 := by
  unfold small at q
  have := Nat.blt_eq ▸ q
  exact intBits_le_64 (by omega) (by omega)

theorem freeze_tuple {us : List Value} {xs : List PyData} {H : Heap} (S : Sim G c g h s.heap) (F : Fr c.h₀ c.L H c.m) {D : Addr}
    (N : News c.h₀ c.L H ((D, ({ cls := .type "tuple", data := .seq us.toArray } : Obj)) :: ledOf c g)) (hD : ∀ p ∈ ledOf c g, p.1 < D) (r : RDs (kn c g) xs us) {E : Value → Shared → Prop} {Q : Value → Shared → Prop}
    (k : ∀ v s' g', Sim G c g' h s'.heap → g.le g' → Same s s' → VV G c g' (.d (.tuple xs)) v → Q v s') {s' : Shared} (hs : s'.heap = H) (q : Same s s') : Q (.ref D) s' := by
  subst hs
  refine k _ _ _ (S.freeze F N hD) (Gh.le_freeze _ _) q (.d (.tuple (.inr (.head _)) rfl rfl ?_))
  rw [List.toList_toArray]
  exact r.mono (Kn.mono fun _ z => .tail _ z)
theorem freeze_list {us : List Value} {xs : List PyData} {n : Nat} {H : Heap} (S : Sim G c g h s.heap) (F : Fr c.h₀ c.L H c.m) {D : Addr}
    (N : News c.h₀ c.L H ((D, ({ cls := .type "list", data := .seq us.toArray n } : Obj)) :: ledOf c g)) (hD : ∀ p ∈ ledOf c g, p.1 < D) (r : RDs (kn c g) xs us) {E : Value → Shared → Prop} {Q : Value → Shared → Prop}
    (k : ∀ v s' g', Sim G c g' h s'.heap → g.le g' → Same s s' → VV G c g' (.d (.list xs)) v → Q v s') {s' : Shared} (hs : s'.heap = H) (q : Same s s') : Q (.ref D) s' := by
  subst hs
  refine k _ _ _ (S.freeze F N hD) (Gh.le_freeze _ _) q (.d (.list (.inr (.head _)) rfl rfl ?_))
  rw [List.toList_toArray]
  exact r.mono (Kn.mono fun _ z => .tail _ z)

theorem short_le {α : Type} {l : List α} (q : short l = true) : l.length ≤ 1000000 := Nat.le_of_ble_eq_true q

theorem rep_one (z : Value) : ∀ n, (List.replicate n [z]).flatten = List.replicate n z
  | 0 => rfl
  | n + 1 => by rw [List.replicate_succ, List.flatten_cons, rep_one z n]; rfl
theorem bin_ok (O : Ok G c) (S : Sim G c g h s.heap) (rx : VV G c g x a) (ry : VV G c g y b) (e : binV op (rd h x) (rd h y) = some v) :
    Ev G c (binaryOp op a b) g s h (fun g' u => VV G c g' v u) := fun E Q k => by
  have kint : ∀ i t, v = bI i → Q (.int i t) { s with toks := s.toks + 1 } := fun i t e => k _ _ g S (.refl _) ⟨rfl, rfl⟩ (by subst e; exact .d (.int _ _))
  unfold binV at e
  split at e
  · rename_i i j e1 e2
    obtain ⟨t, rfl⟩ := rd_int rx e1
    obtain ⟨u, rfl⟩ := rd_int ry e2
    exact add_int (kint _ _ (Option.some.inj e).symm)
  · rename_i i j e1 e2
    obtain ⟨t, rfl⟩ := rd_int rx e1
    obtain ⟨u, rfl⟩ := rd_int ry e2
    exact sub_int (kint _ _ (Option.some.inj e).symm)
  · rename_i i j e1 e2
    obtain ⟨t, rfl⟩ := rd_int rx e1
    obtain ⟨u, rfl⟩ := rd_int ry e2
    split at e
    · rename_i hs
      refine mul_int (kint _ _ (Option.some.inj e).symm) ?_
      rcases Bool.or_eq_true_iff.mp hs with q | q
      · exact .of_right (small_bits q)
      · exact .of_left (small_bits q)
    · cases e
  · rename_i i j e1 e2
    obtain ⟨t, rfl⟩ := rd_int rx e1
    obtain ⟨u, rfl⟩ := rd_int ry e2
    split at e
    · cases e
    · rename_i hz
      have hz' : j ≠ 0 := fun q => hz ((intEq_iff _ _).mpr q)
      split at e
      · rename_i hs
        have hs' : j.natAbs < 2 ^ 64 := by unfold small at hs; exact Nat.blt_eq ▸ hs
        refine floordiv_int hz' (kint _ _ (Option.some.inj e).symm) (.inl (PyProof.noPylong_of_log2 ?_))
        have : j.natAbs.log2 < 64 := (Nat.log2_lt (by omega)).mpr hs'
        omega
      · cases e
  · rename_i i j e1 e2
    obtain ⟨t, rfl⟩ := rd_int rx e1
    obtain ⟨u, rfl⟩ := rd_int ry e2
    split at e
    · cases e
    · rename_i hz
      have hz' : j ≠ 0 := fun q => hz ((intEq_iff _ _).mpr q)
      exact mod_int' hz' (kint _ _ (Option.some.inj e).symm)
  · rename_i i j e1 e2
    obtain ⟨t, rfl⟩ := rd_int rx e1
    obtain ⟨u, rfl⟩ := rd_int ry e2
    split at e
    · rename_i hz
      simp only [Bool.and_eq_true, decide_eq_true_eq] at hz
      have hs : i.natAbs < 2 ^ 64 := by have := hz.1; unfold small at this; exact Nat.blt_eq ▸ this
      exact pow_int_small hz.2.1 (by omega) hs (kint _ _ (Option.some.inj e).symm)
    · cases e
  · rename_i xs ys e1 e2
    obtain ⟨a', us, rfl, t1, r1⟩ := rd_tuple O S rx e1
    obtain ⟨b', ws, rfl, t2, r2⟩ := rd_tuple O S ry e2
    split at e
    · rename_i hs
      cases e
      have hs' := Bool.and_eq_true_iff.mp hs
      have l1 := short_le hs'.1
      have l2 := short_le hs'.2
      refine add_tuples S.fr S.news t1 t2 (fun q => ?_) (fun q q' => ?_) (fun q q' H F' N' => ?_) (by rw [sizeLine_eq, r1.length, r2.length]; omega)
      · have e0 : xs = [] := List.eq_nil_of_length_eq_zero (by rw [← r1.length, q]; rfl)
        subst e0
        exact k _ _ g S (.refl _) (.refl _) (.d (rd_d ry (rd_tuple' e2)))
      · have e0 : ys = [] := List.eq_nil_of_length_eq_zero (by rw [← r2.length, q']; rfl)
        subst e0
        rw [List.append_nil] at k
        exact k _ _ g S (.refl _) (.refl _) (.d (rd_d rx (rd_tuple' e1)))
      · exact freeze_tuple (E := E) S F' N' S.lt (r1.append r2) k rfl ⟨rfl, rfl⟩
    · cases e
  · rename_i xs ys e1 e2
    obtain ⟨a', us, rfl, t1, r1⟩ := rd_list O S rx e1
    obtain ⟨b', ws, rfl, t2, r2⟩ := rd_list O S ry e2
    split at e
    · rename_i hs
      cases e
      have hs' := Bool.and_eq_true_iff.mp hs
      have l1 := short_le hs'.1
      have l2 := short_le hs'.2
      exact add_lists S.fr S.news t1 t2 (fun H F' N' => freeze_list (E := E) (n := 0) S F' N' S.lt (r1.append r2) k rfl ⟨rfl, rfl⟩) (by rw [sizeLine_eq, r1.length, r2.length]; omega)
    · cases e
  · rename_i d j e1 e2
    obtain ⟨a', us, rfl, t1, r1⟩ := rd_list O S rx e1
    obtain ⟨u, rfl⟩ := rd_int ry e2
    split at e
    · rename_i hs
      cases e
      simp only [Bool.and_eq_true, decide_eq_true_eq] at hs
      have e1 : us.length = 1 := r1.length
      refine KMa.mul (ws := List.replicate j.toNat (us.headD .none)) S.fr S.news t1 (by omega) (by omega) (by rw [e1]; omega) ?_ (fun D H F' N' hD => freeze_list (E := E) (n := 0) S F' N' hD (RDs.replicate ?_ _) k rfl ⟨rfl, rfl⟩)
      · obtain ⟨z, rfl⟩ : ∃ z, us = [z] := by cases us with | nil => cases e1 | cons z l => cases l with | nil => exact ⟨z, rfl⟩ | cons _ _ => cases e1
        exact rep_one _ _
      · cases r1 with
        | cons q q' => exact q
    · cases e
  · cases e
end
end Mine
end
section
open PySem PySem.W PyProof.Rows PySem.Calls PySem.SeqAt
set_option linter.unusedVariables false
namespace Mine
variable {G : Gl} {α β : Type} {c : Cx} {g : Gh} {s : Shared} {h h' h₁ h₂ : List O}

theorem int_is (k : Int) (t : Tok) : (intKind G.prog G.w).is k (.int k t) = true := by simp [intKind, Value.isInt]
theorem valueAt_cons {K : Type} [DecidableEq K] (kv : K × Value) (r : List (K × Value)) (k : K) : valueAt (kv :: r) k = if kv.1 = k then some kv.2 else valueAt r k := by
  unfold valueAt
  rw [List.find?_cons]
  by_cases e : kv.1 = k
  · simp [e]
  · simp [e]
theorem intEq_comm (a b : Int) : intEq a b = decide (b = a) := by
  by_cases e : b = a
  · subst e; rw [(intEq_iff _ _).mpr rfl]; simp
  · cases q : intEq a b
    · simp [e]
    · exact absurd ((intEq_iff _ _).mp q).symm e
theorem PD.find {P : PyData → Value → Prop} {k : Int} : ∀ {m : List (Int × PyData)} {kvs : List (Int × Value)}, PD P m kvs → (∀ x, findI k m = some x → ∃ v, valueAt kvs k = some v ∧ P x v) ∧ (findI k m = none → valueAt kvs k = none)
  | _, _, .nil => ⟨fun _ e => (by cases e), fun _ => rfl⟩
  | (j, x) :: m, (_, v) :: kvs, .cons a b => by
    have ih := PD.find (k := k) b
    rw [valueAt_cons]
    unfold findI
    rw [intEq_comm]
    by_cases e : j = k
    · simp only [e, decide_true, if_true]
      exact ⟨fun _ q => by cases q; exact ⟨_, rfl, a⟩, fun q => by cases q⟩
    · simp only [e, decide_false, if_false, Bool.false_eq_true]
      exact ih
theorem PD.isSome {P : PyData → Value → Prop} {k : Int} {m : List (Int × PyData)} {kvs : List (Int × Value)} (r : PD P m kvs) : (valueAt kvs k).isSome = (findI k m).isSome := by
  have := r.find (k := k)
  cases e : findI k m with
  | none => rw [this.2 e]; rfl
  | some x => obtain ⟨v, q, _⟩ := this.1 x e; rw [q]; rfl
theorem PDD.find {kn : Addr → Obj → Prop} {k : Int} : ∀ {m kvs}, PDD (prog := G.prog) (w := G.w) kn m kvs → (∀ x, findI k m = some x → ∃ v, valueAt kvs k = some v ∧ VR G.prog G.w kn [] (.idict x) v) ∧ (findI k m = none → valueAt kvs k = none)
  | _, _, .nil => ⟨fun _ e => (by cases e), fun _ => rfl⟩
  | (j, x) :: m, (_, v) :: kvs, .cons a b => by
    have ih := PDD.find (k := k) b
    rw [valueAt_cons]
    unfold findI
    rw [intEq_comm]
    by_cases e : j = k
    · simp only [e, decide_true, if_true]
      exact ⟨fun _ q => by cases q; exact ⟨_, rfl, a⟩, fun q => by cases q⟩
    · simp only [e, decide_false, if_false, Bool.false_eq_true]
      exact ih
theorem PDD.isSome {kn : Addr → Obj → Prop} {k : Int} {m kvs} (r : PDD (prog := G.prog) (w := G.w) kn m kvs) : (valueAt kvs k).isSome = (findI k m).isSome := by
  have := r.find (k := k)
  cases e : findI k m with
  | none => rw [this.2 e]; rfl
  | some x => obtain ⟨v, q, _⟩ := this.1 x e; rw [q]; rfl
theorem PD.length {K : Type} {P : PyData → Value → Prop} : ∀ {m : List (K × PyData)} {kvs : List (K × Value)}, PD P m kvs → kvs.length = m.length
  | _, _, .nil => rfl
  | _, _, .cons _ b => by simp [b.length]

section
variable {op : CmpOp} {x y : V} {a b : Value} {v : V}
theorem eqV_ok (O : Ok G c) (S : Sim G c g h s.heap) (hu : c.A.units + 200 < cLine) (rx : VV G c g x a) (ry : VV G c g y b) {r : Bool} (e : eqV h x y = some r) :
    ∃ da db as bs, Reads s.heap a da as ∧ Reads s.heap b db bs ∧ da.canLay0 = true ∧ db.canLay0 = true ∧ c.A.units + min da.depth db.depth < cLine ∧ r = PyData.eqv da db := by
  unfold eqV at e
  split at e
  · rename_i dx dy e1 e2
    split at e
    · rename_i q
      have q' := Bool.and_eq_true_iff.mp q
      obtain ⟨as, r1⟩ := rd_reads O S rx e1
      obtain ⟨bs, r2⟩ := rd_reads O S ry e2
      have l1 := lay_of q'.1
      have l2 := lay_of q'.2
      exact ⟨_, _, _, _, r1, r2, l1.1, l2.1, by have := Nat.min_le_left dx.depth dy.depth; omega, by rw [← deq_eqv _ _ l1.1]; exact (Option.some.inj e).symm⟩
    · cases e
  · cases e
theorem none_is {u : Value} (ry : VV G c g (.d .none) u) : u = .none := by cases ry with | d q => cases q; rfl
theorem isNone_ok {u : Value} {r : Bool} (rx : VV G c g x u) (e : isNone x = some r) : plainIs u .none = true ∧ (u == .none) = r := by
  cases x with
  | d d =>
    cases rx with
    | d q => cases q <;> first | (cases e; exact ⟨rfl, rfl⟩)
  | loc n => cases rx; cases e; exact ⟨rfl, rfl⟩
  | tupv l => cases rx; cases e; exact ⟨rfl, rfl⟩
  | lstv l => cases rx; cases e; exact ⟨rfl, rfl⟩
  | sdict l => cases rx; cases e; exact ⟨rfl, rfl⟩
  | idict l => cases rx; cases e; exact ⟨rfl, rfl⟩
  | bad => cases e

/-- what «in» says of the thing at hand -/
theorem in_ok (O : Ok G c) (S : Sim G c g h s.heap) (hu : c.A.units + 200 < cLine) (rx : VV G c g x a) (ry : VV G c g y b) {r : Bool} (e : inV h x y = some r) (nt : Bool) {E Q : Value → Shared → Prop}
    (k : ∀ t, Q (.bool (if nt then !r else r)) { s with toks := t }) : wpAny (model G.prog G.w) c.A (compareOp (if nt then .NotIn else .In) a b) Q E s := by
  have k0 : Q (.bool (if nt then !r else r)) s := k s.toks
  have dict : ∀ {kk : Int} {t : Tok} {d : Addr} {o : Obj} {kvs : List (Int × Value)}, (d == sysModules) = false → s.heap.get? d = some o → o.IsDictOf (intKind G.prog G.w) kvs → (valueAt kvs kk).isSome = r →
      wpAny (model G.prog G.w) c.A (compareOp (if nt then .NotIn else .In) (.int kk t) (.ref d)) Q E s := by
    intro kk t d o kvs lo ho hd hr
    have hm := (Heap.dictOf_iff.mpr ⟨o, ho, hd⟩ : s.heap.DictOf (intKind G.prog G.w) d kvs).mapOf
    have hk : (intKind G.prog G.w).is kk (.int kk t) = true := int_is _ _
    cases nt with
    | true => exact wpAny_notIn_of hk lo hm (by rw [hr]; exact k _)
    | false => exact wpAny_in_of hk lo hm (by rw [hr]; exact k _)
  have data : ∀ {dx : PyData} {ys : List PyData} {bs : List Addr}, VV G c g (.d dx) a → (Reads s.heap b (.list ys) bs ∨ Reads s.heap b (.tuple ys) bs) → lay dx = true → PyData.canLayAll0 ys = true → PyData.depthAll ys ≤ 60 → r = anyEq dx ys →
      wpAny (model G.prog G.w) c.A (compareOp (if nt then .NotIn else .In) a b) Q E s := by
    intro dx ys bs rx hb l1 l2 l3 hr
    obtain ⟨as, r1⟩ := RD.reads (S.rd O (rd_d rx rfl))
    have l1' := lay_of l1
    rw [anyEq_eq l2] at hr
    have hu' : c.A.units + 1 + min (PyData.depthAll ys) dx.depth < cLine := by have := Nat.min_le_left (PyData.depthAll ys) dx.depth; omega
    subst hr
    cases nt <;> rcases hb with hb | hb
    · exact in_list_reads hb r1 l2 l1'.1 hu' k0
    · exact in_tuple_reads hb r1 l2 l1'.1 hu' k0
    · exact notIn_list_reads hb r1 l2 l1'.1 hu' k0
    · exact notIn_tuple_reads hb r1 l2 l1'.1 hu' k0
  unfold inV at e
  split at e
  · rename_i dx ys
    split at e
    · rename_i q
      have q' := Bool.and_eq_true_iff.mp q
      have l2 := lay_of q'.2
      obtain ⟨bs, r2⟩ := RD.reads (S.rd O (rd_d ry rfl))
      exact data rx (.inr r2) q'.1 (by simpa [PyData.canLay0] using l2.1) (by have := l2.2; simp only [PyData.depth] at this; omega) (Option.some.inj e).symm
    · cases e
  · rename_i dx ys
    split at e
    · rename_i q
      have q' := Bool.and_eq_true_iff.mp q
      have l2 := lay_of q'.2
      obtain ⟨bs, r2⟩ := RD.reads (S.rd O (rd_d ry rfl))
      exact data rx (.inl r2) q'.1 (by simpa [PyData.canLay0] using l2.1) (by have := l2.2; simp only [PyData.depth] at this; omega) (Option.some.inj e).symm
    · cases e
  · rename_i kk m
    cases e
    obtain ⟨t, rfl⟩ := rd_int (h := h) rx rfl
    cases ry with
    | idict k1 z k2 k3 => exact dict z (S.known O _ _ k1) k2 k3.isSome
  · rename_i dx n
    split at e
    · rename_i ys hn
      split at e
      · rename_i q
        have q' := Bool.and_eq_true_iff.mp q
        have l2 := lay_of q'.2
        obtain ⟨bs, r2⟩ := rd_reads O S ry (show rd h (.loc n) = .d (.list ys) by simp only [rd, hn])
        exact data rx (.inl r2) q'.1 (by simpa [PyData.canLay0] using l2.1) (by have := l2.2; simp only [PyData.depth] at this; omega) (Option.some.inj e).symm
      · cases e
    · rename_i m hn
      split at e
      · cases e
        obtain ⟨t, rfl⟩ := rd_int (h := h) rx rfl
        cases ry with
        | loc ha =>
          obtain ⟨bb, hb, rr⟩ := S.blockAt hn ha
          cases rr with
          | idict z p q => exact dict z (S.here (S.inMu hb (.head _))) p q.isSome
      · cases e
    · rename_i m hn
      split at e
      · cases e
        obtain ⟨t, rfl⟩ := rd_int (h := h) rx rfl
        cases ry with
        | loc ha =>
          obtain ⟨bb, hb, rr⟩ := S.blockAt hn ha
          cases rr with
          | iidict z p q => exact dict z (S.here (S.inMu hb (.head _))) p q.isSome
      · cases e
    · cases e
  · cases e

theorem cmp_ok (O : Ok G c) (S : Sim G c g h s.heap) (hu : c.A.units + 200 < cLine) (rx : VV G c g x a) (ry : VV G c g y b) (e : cmpV h op x y = some v) :
    Ev G c (compareOp op a b) g s h (fun g' u => VV G c g' v u) := fun E Q k => by
  have kb : ∀ (r : Bool) t, v = bB r → Q (.bool r) { s with toks := t } := fun r t e => k _ _ g S (.refl _) ⟨rfl, rfl⟩ (by subst e; exact .d (.bool _))
  have kb0 : ∀ (r : Bool), v = bB r → Q (.bool r) s := fun r e => kb r s.toks e
  have int2 : ∀ {i j : Int}, x = .d (.int i) → y = .d (.int j) → ∃ t u, a = .int i t ∧ b = .int j u := by
    rintro i j rfl rfl
    obtain ⟨t, rfl⟩ := rd_int (h := h) rx rfl
    obtain ⟨u, rfl⟩ := rd_int (h := h) ry rfl
    exact ⟨t, u, rfl, rfl⟩
  unfold cmpV at e
  split at e
  · split at e
    · rename_i r hr
      cases e
      obtain ⟨da, db, as, bs, r1, r2, l1, l2, hu', rfl⟩ := eqV_ok O S hu rx ry hr
      exact compareEq_reads r1 r2 l1 l2 hu' (kb0 _ rfl)
    · cases e
  · split at e
    · rename_i r hr
      cases e
      obtain ⟨da, db, as, bs, r1, r2, l1, l2, hu', rfl⟩ := eqV_ok O S hu rx ry hr
      exact compareNe_reads r1 r2 l1 l2 hu' (kb0 _ rfl)
    · cases e
  · split at e
    · cases e; obtain ⟨t, u, rfl, rfl⟩ := int2 rfl rfl; exact PySem.P.lt_int (kb0 _ rfl)
    · cases e
  · split at e
    · cases e; obtain ⟨t, u, rfl, rfl⟩ := int2 rfl rfl; exact PySem.P.le_int (kb0 _ rfl)
    · cases e
  · split at e
    · cases e; obtain ⟨t, u, rfl, rfl⟩ := int2 rfl rfl; exact PySem.P.gt_int (kb0 _ rfl)
    · cases e
  · split at e
    · cases e; obtain ⟨t, u, rfl, rfl⟩ := int2 rfl rfl; exact PySem.P.ge_int (kb0 _ rfl)
    · cases e
  · split at e
    · split at e
      · rename_i r hr
        cases e
        have := none_is ry; subst this
        obtain ⟨h1, h2⟩ := isNone_ok rx hr
        exact wpAny_is_plain h1 (by rw [h2]; exact kb0 _ rfl)
      · cases e
    · cases e
  · split at e
    · split at e
      · rename_i r hr
        cases e
        have := none_is ry; subst this
        obtain ⟨h1, h2⟩ := isNone_ok rx hr
        exact wpAny_isNot_plain h1 (by rw [h2]; exact kb0 _ rfl)
      · cases e
    · cases e
  · split at e
    · rename_i r hr
      cases e
      exact in_ok O S hu rx ry hr false fun t => kb _ t rfl
    · cases e
  · split at e
    · rename_i r hr
      cases e
      exact in_ok O S hu rx ry hr true fun t => kb _ t rfl
    · cases e
end
end Mine
end
section
open PySem PySem.W PyProof.Rows PySem.Calls PySem.SeqAt
set_option linter.unusedVariables false
namespace Mine
variable {G : Gl} {α β : Type} {c : Cx} {g : Gh} {s : Shared} {h h' h₁ h₂ : List O}
section
variable {x y : V} {a b : Value} {v : V}

theorem idx_seq {k : Int} {n j : Nat} (e : idx k n = some j) : seqIndex? k n = some j ∧ j < n ∧ -(n : Int) ≤ k ∧ k < n := by
  unfold idx at e
  split at e
  · rename_i i
    split at e
    · rename_i hi
      obtain rfl := Option.some.inj e
      have hi' : i < n := Nat.blt_eq ▸ hi
      have hk : (Int.ofNat i) = (i : Int) := rfl
      rw [hk]
      refine ⟨?_, hi', by omega, by omega⟩
      unfold seqIndex?
      have h0 : ¬ ((i : Int) < 0) := by omega
      simp only [h0, if_false]
      have h1 : (0 : Int) ≤ i := by omega
      have h2 : (i : Int) < n := by omega
      simp [h2]
    · cases e
  · rename_i i
    split at e
    · rename_i hi
      obtain rfl := Option.some.inj e
      have hi' : i < n := Nat.blt_eq ▸ hi
      have : Int.negSucc i < 0 := Int.negSucc_lt_zero i
      have h1 : (0 : Int) ≤ Int.negSucc i + n := by omega
      have h2 : Int.negSucc i + n < (n : Int) := by omega
      refine ⟨?_, by omega, by omega, by omega⟩
      unfold seqIndex?
      simp only [this, if_true]
      simp only [h1, h2, decide_true, Bool.and_self, if_true, Option.some.injEq]
      omega
    · cases e
theorem atL_ok {α : Type} {k : Int} {l : List α} {z : α} (e : atL k l = some z) : l.length ≤ 1000000 ∧ ∃ j, seqIndex? k l.length = some j ∧ l[j]? = some z ∧ -(2 ^ 63) ≤ k ∧ k < 2 ^ 63 := by
  unfold atL at e
  split at e
  · rename_i hs
    have := short_le hs
    split at e
    · rename_i j hj
      obtain ⟨h1, h2, h3, h4⟩ := idx_seq hj
      exact ⟨this, j, h1, e, by omega, by omega⟩
    · cases e
  · cases e

def notSlice : PySem.Expr → Bool
  | .Slice _ _ _ _ => false
  | _ => true
theorem sub_plain {slice : PySem.Expr} (hs : notSlice slice = true) (o i : Value) : subscripted slice false o i = operate [o, i] (getItem o i) := by
  cases slice <;> first | rfl | cases hs

theorem getTup_ok {l : Addr} {vs : List Value} {xs : List PyData} {k : Int} {t : Tok} {z : PyData} {E Q : Value → Shared → Prop} (ht : IsTup s.heap l vs.toArray) (r : RDs (kn c g) xs vs) (e : atL k xs = some z)
    (q : ∀ u, RD (kn c g) z u → Q u s) : wpAny (model G.prog G.w) c.A (getItem (.ref l) (.int k t)) Q E s := by
  obtain ⟨h1, j, h2, h3, h4, h5⟩ := atL_ok e
  obtain ⟨u, h6, h7⟩ := r.get h3
  exact PyProof.Rows.getItem_tuple ht h4 h5 (by rw [List.size_toArray, r.length]; exact h2) (by simpa using h6) (q u h7)
theorem getList_ok {l : Addr} {vs : List Value} {xs : List PyData} {k : Int} {t : Tok} {z : PyData} {E Q : Value → Shared → Prop} (ht : s.heap.IsList l vs.toArray) (r : RDs (kn c g) xs vs) (e : atL k xs = some z)
    (q : ∀ u, RD (kn c g) z u → Q u s) : wpAny (model G.prog G.w) c.A (getItem (.ref l) (.int k t)) Q E s := by
  obtain ⟨h1, j, h2, h3, h4, h5⟩ := atL_ok e
  obtain ⟨u, h6, h7⟩ := r.get h3
  by_cases hk : k < 0
  · exact kde_getNeg ht hk h4 (by rw [r.length]; exact h2) h6 (q u h7)
  · refine wpAny_getItem_list ht (by omega) h5 ?_ (q u h7)
    have : k.toNat = j := by
      unfold seqIndex? at h2
      simp only [hk, if_false] at h2
      split at h2
      · cases h2; rfl
      · cases h2
    rw [this]; simpa using h6

theorem findS_mem {α : Type} {k : Str} : ∀ {m : List (Str × α)} {x : α}, findS k m = some x → (k, x) ∈ m
  | [], _, e => by cases e
  | (j, y) :: m, x, e => by
    unfold findS at e
    split at e
    · rename_i q; cases e; rw [(strEq_iff _ _).mp q]; exact .head _
    · exact .tail _ (findS_mem e)
theorem PD.findS {P : PyData → Value → Prop} {k : Str} : ∀ {m : List (Str × PyData)} {kvs : List (Str × Value)}, PD P m kvs → ∀ x, findS k m = some x → ∃ v, valueAt kvs k = some v ∧ P x v
  | _, _, .nil, _, e => by cases e
  | (j, x) :: m, (_, v) :: kvs, .cons a b, z, e => by
    rw [valueAt_cons]
    unfold Mine.findS at e
    split at e
    · rename_i q
      cases e
      rw [if_pos ((strEq_iff _ _).mp q).symm]
      exact ⟨_, rfl, a⟩
    · rename_i q
      rw [if_neg fun e => q ((strEq_iff _ _).mpr e.symm)]
      exact PD.findS b _ e
theorem str_is (k : Str) (t : Tok) : (PySem.strKind G.prog G.w).is k (.str k t) = true := by simp [PySem.strKind, Value.isStrOf]

theorem sub_ok (O : Ok G c) (S : Sim G c g h s.heap) (rx : VV G c g x a) (ry : VV G c g y b) (e : subV h x y = some v) {value slice : PySem.Expr} (hs : notSlice slice = true) :
    Ev G c (subscriptTail value slice a b) g s h (fun g' u => VV G c g' v u) := fun E Q k => by
  have kd : ∀ {z u}, v = .d z → RD (kn c g) z u → Q u s := fun {z u} e r => k _ _ g S (.refl _) (.refl _) (by subst e; exact .d r)
  have kt : ∀ {z u}, v = .d z → RD (kn c g) z u → Q u { s with toks := s.toks + 1 } := fun {z u} e r => k _ _ g S (.refl _) ⟨rfl, rfl⟩ (by subst e; exact .d r)
  have dict : ∀ {kk : Int} {t : Tok} {d : Addr} {o : Obj} {kvs : List (Int × Value)} {u : Value}, s.heap.get? d = some o → o.IsDictOf (intKind G.prog G.w) kvs → valueAt kvs kk = some u → Q u { s with toks := s.toks + 1 } →
      wpAny (model G.prog G.w) c.A (subscriptTail value slice (.ref d) (.int kk t)) Q E s := by
    intro kk t d o kvs u ho hd hu q
    have hm : s.heap.DictOf (intKind G.prog G.w) d kvs := Heap.dictOf_iff.mpr ⟨o, ho, hd⟩
    exact tail_any hm.typeIs slot_dict_getitem.lookup (wpAny_getItem_of (int_is _ _) hm.mapOf hu q) (sub_plain hs _ _)
  unfold subV at e
  split at e
  · rename_i xs kk
    split at e
    · rename_i z hz
      cases e
      obtain ⟨t, rfl⟩ := rd_int (h := h) ry rfl
      obtain ⟨l, vs, rfl, h1, h2⟩ := rd_tuple O S rx rfl
      exact tail_any h1.typeIs slot_tuple_getitem.lookup (getTup_ok h1 h2 hz fun u r => kd rfl r) (sub_plain hs _ _)
    · cases e
  · rename_i xs kk
    split at e
    · rename_i z hz
      cases e
      obtain ⟨t, rfl⟩ := rd_int (h := h) ry rfl
      obtain ⟨l, vs, rfl, h1, h2⟩ := rd_list O S rx rfl
      exact tail_any h1.typeIs slot_list_getitem.lookup (getList_ok h1 h2 hz fun u r => kd rfl r) (sub_plain hs _ _)
    · cases e
  · rename_i n kk
    obtain ⟨t, rfl⟩ := rd_int (h := h) ry rfl
    split at e
    · rename_i xs hn
      split at e
      · rename_i z hz
        cases e
        obtain ⟨l, vs, rfl, h1, h2⟩ := rd_list O S rx (show rd h (.loc n) = .d (.list xs) by simp only [rd, hn])
        exact tail_any h1.typeIs slot_list_getitem.lookup (getList_ok h1 h2 hz fun u r => kd rfl r) (sub_plain hs _ _)
      · cases e
    · rename_i m hn
      split at e
      · rename_i z hz
        cases e
        obtain ⟨d, o, kvs, rfl, _, ho, hd, hp⟩ := rd_idict O S rx (show rd h (.loc n) = .idict m by simp only [rd, hn])
        obtain ⟨u, hu, hr⟩ := hp.find.1 _ hz
        exact dict ho hd hu (kt rfl hr)
      · cases e
    · rename_i m hn
      split at e
      · rename_i z hz
        cases e
        cases rx with
        | loc ha =>
          obtain ⟨bb, hb, rr⟩ := S.blockAt hn ha
          cases rr with
          | iidict zz p q =>
            obtain ⟨u, hu, hr⟩ := q.find.1 _ hz
            exact dict (S.here (S.inMu hb (.head _))) p hu (k _ _ g S (.refl _) ⟨rfl, rfl⟩ (hr.mono (fun _ _ q => q) (List.nil_prefix)))
      · cases e
    · cases e
  · rename_i m kk
    obtain ⟨t, rfl⟩ := rd_int (h := h) ry rfl
    split at e
    · rename_i z hz
      cases e
      obtain ⟨d, o, kvs, rfl, _, ho, hd, hp⟩ := rd_idict (h := h) O S rx rfl
      obtain ⟨u, hu, hr⟩ := hp.find.1 _ hz
      exact dict ho hd hu (kt rfl hr)
    · cases e
  · rename_i m kk
    split at e
    · rename_i z hz
      cases e
      cases rx with
      | sdict k1 k2 k3 =>
        cases ry with
        | d q =>
          cases q
          obtain ⟨u, hu, hr⟩ := k3.findS _ hz
          have hm : s.heap.DictOf (strKind G.prog G.w) _ _ := Heap.dictOf_iff.mpr ⟨_, S.known O _ _ k1, k2⟩
          exact tail_any hm.typeIs slot_dict_getitem.lookup (wpAny_getItem_of (str_is _ _) hm.mapOf hu (kt rfl hr)) (sub_plain hs _ _)
    · cases e
  · rename_i x' kk
    split at e
    · split at e
      · rename_i cc l hc
        cases e
        obtain ⟨t, rfl⟩ := rd_int (h := h) ry rfl
        cases rx with
        | d q =>
          cases q
          refine tail_any (typeIs_str s _ _) F.slot_str_getitem.lookup (PySem.P.getItem_str (by decide) (c := cc) ?_ (kt rfl (.str _ _))) (sub_plain hs _ _)
          obtain ⟨⟨l'⟩⟩ := x'
          simp only at hc
          subst hc
          simp [seqIndex?, Str.length]
      · cases e
    · cases e
  · cases e
end
end Mine
end
section
open PySem PySem.W PyProof.Rows PySem.Calls PySem.SeqAt
set_option linter.unusedVariables false
namespace Mine
variable {G : Gl} {α β : Type} {c : Cx} {g : Gh} {s : Shared} {h h' h₁ h₂ : List O}

def biVal : BI → Value
  | .len => .builtin "len"
  | .abs => .builtin "abs"
  | .int => .type "int"
  | .list => .type "list"
  | .tuple => .type "tuple"
  | .dict => .type "dict"
  | .sorted => .builtin "sorted"
  | .max => .builtin "max"

theorem sortI_perm : ∀ l : List Int, (sortI l).Perm l
  | [] => List.Perm.refl _
  | x :: r => by
    have ins : ∀ (k : Int) (l : List Int), (insI k l).Perm (k :: l) := by
      intro k l
      induction l with
      | nil => exact List.Perm.refl _
      | cons y l ih =>
        unfold insI
        split
        · exact List.Perm.refl _
        · exact (ih.cons y).trans (List.Perm.swap _ _ _)
    exact (ins x _).trans ((sortI_perm r).cons x)
theorem insI_asc (k : Int) : ∀ l : List Int, l.Pairwise (· ≤ ·) → (insI k l).Pairwise (· ≤ ·)
  | [], _ => List.pairwise_singleton _ _
  | y :: l, q => by
    have q' := List.pairwise_cons.mp q
    unfold insI
    split
    · rename_i hk
      have hk' : k ≤ y := by simpa using hk
      refine List.pairwise_cons.mpr ⟨fun z hz => ?_, q⟩
      rcases List.mem_cons.mp hz with rfl | hz
      · exact hk'
      · exact Int.le_trans hk' (q'.1 z hz)
    · rename_i hk
      have hk' : y ≤ k := by have : ¬ k ≤ y := by simpa using hk
                             omega
      refine List.pairwise_cons.mpr ⟨fun z hz => ?_, insI_asc k l q'.2⟩
      have ins : ∀ (l : List Int), ∀ z ∈ insI k l, z = k ∨ z ∈ l := by
        intro l
        induction l with
        | nil => intro z hz; exact .inl (by simpa [insI] using hz)
        | cons y l ih =>
          intro z hz
          unfold insI at hz
          split at hz
          · rcases List.mem_cons.mp hz with rfl | hz
            · exact .inl rfl
            · exact .inr hz
          · rcases List.mem_cons.mp hz with rfl | hz
            · exact .inr (.head _)
            · exact (ih z hz).imp id (List.Mem.tail _)
      rcases ins l z hz with rfl | hz
      · exact hk'
      · exact q'.1 z hz
theorem sortI_asc : ∀ l : List Int, (sortI l).Pairwise (· ≤ ·)
  | [] => List.Pairwise.nil
  | x :: r => insI_asc x _ (sortI_asc r)
theorem lks_asc_of : ∀ l : List Int, l.Pairwise (· ≤ ·) → lks_asc l = true
  | [], _ => rfl
  | x :: r, q => by
    have q' := List.pairwise_cons.mp q
    unfold lks_asc
    rw [Bool.and_eq_true]
    refine ⟨?_, lks_asc_of r q'.2⟩
    rw [List.all_eq_true]
    intro z hz
    exact decide_eq_true (q'.1 z hz)
theorem RDs.vals {kn : Addr → Obj → Prop} {t : Nat → Tok} : ∀ (l : List Int) (i : Nat), RDs kn (l.map .int) (lks_vals l i t)
  | [], _ => .nil
  | x :: r, i => .cons (.int _ _) (RDs.vals r (i + 1))
theorem PDD.keys {kn : Addr → Obj → Prop} : ∀ {m kvs}, PDD (prog := G.prog) (w := G.w) kn m kvs → kvs.map (·.1) = m.map (·.1)
  | _, _, .nil => rfl
  | _, _, .cons a b => by simp [b.keys]
theorem PD.keys {K : Type} {P : PyData → Value → Prop} : ∀ {m : List (K × PyData)} {kvs : List (K × Value)}, PD P m kvs → kvs.map (·.1) = m.map (·.1)
  | _, _, .nil => rfl
  | _, _, .cons a b => by simp [b.keys]
theorem kf_of : ∀ {vs : List Value} {ns : List Int}, vs.length = ns.length → (∀ (j : Nat) (v : Value), vs[j]? = some v → ∃ k, ns[j]? = some k ∧ Value.isInt k v = true) → kf_ints vs = true ∧ lks_nums vs = ns
  | [], [], _, _ => ⟨rfl, rfl⟩
  | [], _ :: _, e, _ => by simp at e
  | _ :: _, [], e, _ => by simp at e
  | v :: vs, n :: ns, e, q => by
    obtain ⟨k, h1, h2⟩ := q 0 v rfl
    simp only [List.getElem?_cons_zero, Option.some.injEq] at h1
    subst h1
    obtain ⟨t, rfl⟩ := Value.isInt_shape h2
    have ih := kf_of (vs := vs) (ns := ns) (by simpa using e) fun j v hv => q (j + 1) v hv
    exact ⟨ih.1, by show n :: lks_nums vs = _; rw [ih.2]⟩

theorem lo_new (O : Ok G c) (S : Sim G c g h s.heap) : (s.heap.objs.size == sysModules) = false := Fr.notModules S.fr (modules_low O.T.nolimit)

theorem callB_ok (O : Ok G c) (hu : c.A.units + 200 < cLine) {mu : Bool} {b : BI} {vs : List V} {us : List Value} {v : V} (S : Sim G c g h s.heap) (r : VVs G c g vs us) (e : callB h mu b vs = some (v, h')) :
    Ev G c (call (biVal b) us) g s h' (fun g' u => VV G c g' v u) := fun E Q k => by
  have kint : ∀ (i : Int) (t : Tok) tk, v = bI i → h' = h → Q (.int i t) { s with toks := tk } := fun i t tk e e' => by subst e; subst e'; exact k _ _ g S (.refl _) ⟨rfl, rfl⟩ (.d (.int _ _))
  unfold callB at e
  split at e
  · -- len
    cases r with
    | cons r0 rn =>
      cases rn
      split at e
      · rename_i xs hx
        split at e
        · rename_i hs
          cases e
          obtain ⟨a, ws, rfl, h1, h2⟩ := rd_list O S r0 hx
          have l1 := short_le hs
          have e1 : (ws.toArray.size : Int) = xs.length := by rw [List.size_toArray, h2.length]
          exact call_len_list h1 (by rw [e1]; omega) (by rw [e1]; exact kint _ _ _ rfl rfl)
        · cases e
      · rename_i xs hx
        split at e
        · rename_i hs
          cases e
          obtain ⟨a, ws, rfl, h1, h2⟩ := rd_tuple O S r0 hx
          have l1 := short_le hs
          have e1 : (ws.toArray.size : Int) = xs.length := by rw [List.size_toArray, h2.length]
          exact PyProof.Rows.len_tuple h1 (by rw [e1]; omega) (by rw [e1]; exact kint _ _ _ rfl rfl)
        · cases e
      · rename_i m hx
        split at e
        · rename_i hs
          cases e
          obtain ⟨a, o, kvs, rfl, z, ho, hd, hp⟩ := rd_idict O S r0 hx
          have l1 := short_le hs
          have e1 : (kvs.length : Int) = m.length := by rw [hp.length]
          exact call_len_dict z (Heap.dictOf_iff.mpr ⟨o, ho, hd⟩) (by rw [e1]; omega) (by rw [e1]; exact kint _ _ _ rfl rfl)
        · cases e
      · cases e
  · cases r with
    | cons r0 rn =>
      cases rn
      cases e
      obtain ⟨t, rfl⟩ := rd_int (h := h) r0 rfl
      refine PyProof.Rows.call_abs_int fun u tk => ?_
      refine kint _ _ _ ?_ rfl
      simp only [decide_eq_true_eq]
  · cases r with
    | cons r0 rn =>
      cases rn
      cases e
      obtain ⟨t, rfl⟩ := rd_int (h := h) r0 rfl
      exact call_int_int (kint _ _ s.toks rfl rfl)
  · cases r with
    | cons r0 rn =>
      cases rn
      cases e
      cases r0 with
      | d q => cases q; exact call_int_bool (kint _ _ _ rfl rfl)
  · cases r with
    | cons r0 rn =>
      cases rn
      split at e
      · rename_i xs hx
        split at e
        · rename_i hs
          cases e
          obtain ⟨a, ws, rfl, h1, h2⟩ := rd_list O S r0 hx
          have l1 := short_le hs
          exact list_copyK S.fr S.news h1 (fun D n H F' N' hD => freeze_list (E := E) S F' N' hD h2 k rfl ⟨rfl, rfl⟩) (by rw [sizeLine_eq, List.size_toArray, h2.length]; omega)
        · cases e
      · rename_i xs hx
        split at e
        · rename_i hs
          cases e
          obtain ⟨a, ws, rfl, h1, h2⟩ := rd_tuple O S r0 hx
          have l1 := short_le hs
          exact list_copyKT S.fr S.news h1 (fun D n H F' N' hD => freeze_list (E := E) S F' N' hD h2 k rfl ⟨rfl, rfl⟩) (by rw [sizeLine_eq, List.size_toArray, h2.length]; omega)
        · cases e
      · cases e
  · cases r with
    | cons r0 rn =>
      cases rn
      split at e
      · rename_i xs hx
        split at e
        · rename_i hs
          cases e
          obtain ⟨a, ws, rfl, h1, h2⟩ := rd_list O S r0 hx
          have l1 := short_le hs
          refine call_tuple_list h1 (fun H hk => ?_) (by rw [sizeLine_eq, List.size_toArray, h2.length]; omega)
          have F1 := S.fr.keeps hk
          have N1 : News c.h₀ c.L H (ledOf c g) := fun p hp => ⟨hk _ _ (S.news p hp).1, (S.news p hp).2⟩
          have S1 : Sim G c g h ({ s with heap := H } : Shared).heap := ⟨F1, N1, S.nd, S.la, S.lm, S.objs⟩
          exact freeze_tuple (E := E) (s := { s with heap := H }) S1 (F1.push _) (N1.push F1 _) S1.lt h2 (fun v s' g' a b c d => k v s' g' a b ⟨c.os, c.gens⟩ d) rfl ⟨rfl, rfl⟩
        · cases e
      · rename_i xs hx
        split at e
        · rename_i hs
          cases e
          obtain ⟨a, ws, rfl, h1, h2⟩ := rd_tuple O S r0 hx
          exact call_tuple_tup h1 (k _ _ g S (.refl _) (.refl _) (.d (rd_d r0 (rd_tuple' hx))))
        · cases e
      · cases e
  · cases r with
    | cons r0 rn =>
      cases rn
      split at e
      · rename_i m hx
        split at e
        · rename_i hs
          obtain ⟨a, o, kvs, rfl, z, ho, hd, hp⟩ := rd_idict O S r0 hx
          have l1 := short_le hs
          refine kt_call_dict z (Heap.dictOf_iff.mpr ⟨o, ho, hd⟩) (by rw [sizeLine_eq, hp.length]; omega) fun H hm hs => ?_
          obtain ⟨o', ho', hd'⟩ := Heap.dictOf_iff.mp hm
          have N1 := S.news.push S.fr { cls := .type "dict", data := .dict #[] }
          have F' := (S.fr.push _).change hs (N1 _ (.head _)).2.1 (N1.fresh (.head _))
          have ap : ∀ p ∈ ledOf c g, p.1 ≠ s.heap.objs.size := fun p hp => Nat.ne_of_lt (S.lt p hp)
          have N' : News c.h₀ c.L H ((s.heap.objs.size, o') :: ledOf c g) := N1.setHead ap hs ho'
          split at e
          · cases e
            exact k _ _ _ (S.push1 (D := s.heap.objs.size) F' N' S.lt (.idict (lo_new O S) hd' hp)) (Gh.le_push _ _ _) ⟨rfl, rfl⟩ (.loc (by rw [← S.la]; simp))
          · cases e
            exact k _ _ _ (S.freeze F' N' S.lt) (Gh.le_freeze _ _) ⟨rfl, rfl⟩ (.idict (.inr (.head _)) (lo_new O S) hd' (hp.mono fun _ _ q => q.mono (Kn.mono fun _ q => .tail _ q)))
        · cases e
      · cases e
  · rename_i n
    cases r with
    | cons r0 rn =>
      cases rn
      split at e
      · rename_i m hn
        split at e
        · rename_i hs
          cases e
          have hs' := Bool.and_eq_true_iff.mp hs
          have l1 : m.length < 64 := Nat.blt_eq ▸ hs'.1
          have l2 : 0 < m.length := Nat.blt_eq ▸ hs'.2
          cases r0 with
          | loc ha =>
            obtain ⟨bb, hb, rr⟩ := S.blockAt hn ha
            cases rr with
            | iidict z p q =>
              rename_i a o kvs
              have hk := q.keys
              have hl : kvs.length = m.length := by rw [← List.length_map (f := (·.1)) (as := kvs), hk, List.length_map]
              have hm : s.heap.DictOf (intKind G.prog G.w) a kvs := Heap.dictOf_iff.mpr ⟨o, S.here (S.inMu hb (.head _)), p⟩
              obtain ⟨ep, hat⟩ := hm.dictAt
              refine kdu_sorted (kdl_dict (knd := intKind G.prog G.w) (kvs := kvs) (ep := ep) z) O.hh S.fr S.news hat (by rw [sizeLine_eq]; omega) fun D H tk ws F' N' hD hlen hv => ?_
              obtain ⟨h1, h2⟩ := kf_of (vs := ws) (ns := m.map (·.1)) (by rw [hlen, hl, List.length_map]) fun j u hu => by
                obtain ⟨kk, xx, e1, e2⟩ := hv j u hu
                refine ⟨kk, ?_, e2⟩
                rw [← hk, List.getElem?_map, e1]; rfl
              refine lks_sort (q := sortI (m.map (·.1))) (its := ws.toArray) (n := 0) (news' := fun t => (D, PySem.W.listOf (lks_vals (sortI (m.map (·.1))) 0 t).toArray 2) :: ledOf c g) F' N' (fun t => .head fun p hp => Nat.ne_of_lt (hD p hp)) ?_ ?_ ?_ ?_ fun t H' F'' N'' => ?_
              · simpa using h1
              · unfold lks_ok
                rw [List.toList_toArray, h2, Bool.and_eq_true]
                exact ⟨List.isPerm_iff.mpr (sortI_perm _).symm, lks_asc_of _ (sortI_asc _)⟩
              · rw [List.toList_toArray]
                cases ws with
                | nil => simp at hlen; omega
                | cons _ _ => rfl
              · rw [List.toList_toArray]; omega
              · exact freeze_list (E := E) (s := s) S F'' N'' hD (RDs.vals _ _) k rfl ⟨rfl, rfl⟩
        · cases e
      · cases e
  · cases r with
    | cons r0 rn =>
      cases rn with
      | cons r1 rn =>
        cases rn
        cases e
        obtain ⟨t, rfl⟩ := rd_int (h := h) r0 rfl
        obtain ⟨u, rfl⟩ := rd_int (h := h) r1 rfl
        rename_i i j
        refine max_two_ints O.hh fun H tk hk => ?_
        have S1 : Sim G c g h H := ⟨S.fr.keeps hk, fun p hp => ⟨hk _ _ (S.news p hp).1, (S.news p hp).2⟩, S.nd, S.la, S.lm, S.objs⟩
        have kk : ∀ t, Q (.int (if decide (j > i) = true then j else i) t) { s with heap := H, toks := tk } := fun t => k _ _ g S1 (.refl _) ⟨rfl, rfl⟩ (.d (.int _ _))
        by_cases hc : j > i
        · have := kk u; rw [if_pos (decide_eq_true hc)] at this; rw [if_pos hc]; exact this
        · have := kk t; rw [if_neg (by simpa using hc)] at this; rw [if_neg hc]; exact this
  · cases e
end Mine
end
section
open PySem PySem.W PyProof.Rows PySem.Calls PySem.SeqAt
set_option linter.unusedVariables false
namespace Mine
variable {G : Gl} {α β : Type} {c : Cx} {g : Gh} {s : Shared} {h h' h₁ h₂ : List O}

/-! dicts put and dropped -/
theorem stored_cons {K : Type} [DecidableEq K] {kv : K × Value} {r : List (K × Value)} {k : K} {v : Value} (nd : ((kv :: r).map (·.1)).Nodup) : stored (kv :: r) k v = if kv.1 = k then (k, v) :: r else kv :: stored r k v := by
  rw [List.map_cons, List.nodup_cons] at nd
  unfold stored
  rw [List.any_cons]
  by_cases e : kv.1 = k
  · subst e
    simp only [decide_true, Bool.true_or, if_true, List.map_cons]
    rw [map_store_of_not_mem _ _ _ nd.1]
  · simp only [e, decide_false, Bool.false_or, if_false, List.map_cons]
    split <;> rfl
theorem PD.put {P : PyData → Value → Prop} {k : Int} {x : PyData} {v : Value} (q : P x v) : ∀ {m : List (Int × PyData)} {kvs : List (Int × Value)}, PD P m kvs → (kvs.map (·.1)).Nodup → PD P (putI k x m) (stored kvs k v)
  | _, _, .nil, _ => .cons q .nil
  | (j, y) :: m, (_, u) :: kvs, .cons a b, nd => by
    rw [stored_cons nd]
    unfold putI
    rw [intEq_comm]
    by_cases e : j = k
    · simp only [e, decide_true, if_true]; exact .cons q b
    · simp only [e, decide_false, if_false, Bool.false_eq_true]
      rw [List.map_cons, List.nodup_cons] at nd
      exact .cons a (PD.put q b nd.2)
theorem PDD.put {kn : Addr → Obj → Prop} {k : Int} {x : List (Int × PyData)} {v : Value} (q : VR G.prog G.w kn [] (.idict x) v) : ∀ {m kvs}, PDD (prog := G.prog) (w := G.w) kn m kvs → (kvs.map (·.1)).Nodup → PDD (prog := G.prog) (w := G.w) kn (putI k x m) (stored kvs k v)
  | _, _, .nil, _ => .cons q .nil
  | (j, y) :: m, (_, u) :: kvs, .cons a b, nd => by
    rw [stored_cons nd]
    unfold putI
    rw [intEq_comm]
    by_cases e : j = k
    · simp only [e, decide_true, if_true]; exact .cons q b
    · simp only [e, decide_false, if_false, Bool.false_eq_true]
      rw [List.map_cons, List.nodup_cons] at nd
      exact .cons a (PDD.put q b nd.2)
theorem PD.drop {P : PyData → Value → Prop} {k : Int} : ∀ {m : List (Int × PyData)} {kvs : List (Int × Value)}, PD P m kvs → (kvs.map (·.1)).Nodup → PD P (dropI k m) (without kvs k)
  | _, _, .nil, _ => .nil
  | (j, y) :: m, (_, u) :: kvs, .cons a b, nd => by
    rw [List.map_cons, List.nodup_cons] at nd
    unfold dropI
    rw [intEq_comm]
    by_cases e : j = k
    · subst e
      simp only [decide_true, if_true]
      have : without ((j, u) :: kvs) j = kvs := by
        unfold without
        rw [List.filter_cons]
        simp only [ne_eq, not_true_eq_false, decide_false, Bool.false_eq_true, if_false]
        exact without_of_not_mem kvs _ nd.1
      rw [this]; exact b
    · simp only [e, decide_false, if_false, Bool.false_eq_true]
      have : without ((j, u) :: kvs) k = (j, u) :: without kvs k := by
        unfold without
        rw [List.filter_cons]
        simp [e]
      rw [this]
      exact .cons a (PD.drop b nd.2)
theorem dict_nodup {o : Obj} {kvs : List (Int × Value)} (hd : o.IsDictOf (intKind G.prog G.w) kvs) : (kvs.map (·.1)).Nodup := let ⟨_, _, _, _, _, _, nd⟩ := hd; nd
theorem putI_len {α : Type} {k : Int} {x : α} : ∀ {m : List (Int × α)}, (putI k x m).length ≤ m.length + 1
  | [] => Nat.le_refl _
  | (j, y) :: m => by
    unfold putI
    split
    · simp
    · have := putI_len (k := k) (x := x) (m := m); simp; omega

theorem rep_single (d : Addr) (o o' : Obj) : rep d o' [(d, o)] = [(d, o')] := by simp [rep]

theorem pop_last {α : Type} {l r : List α} {x : α} (e : l.reverse = x :: r) : l = l.dropLast ++ [x] ∧ l ≠ [] := by
  have h1 : l = (x :: r).reverse := by rw [← e, List.reverse_reverse]
  rw [List.reverse_cons] at h1
  refine ⟨?_, ?_⟩
  · rw [h1, List.dropLast_concat]
  · rw [h1]; simp
theorem RDs.split {kn : Addr → Obj → Prop} {x : PyData} : ∀ {xs : List PyData} {vs : List Value}, RDs kn (xs ++ [x]) vs → ∃ us u, vs = us ++ [u] ∧ RDs kn xs us ∧ RD kn x u
  | [], _, .cons a .nil => ⟨[], _, rfl, .nil, a⟩
  | y :: xs, _, .cons a b => let ⟨us, u, e, q, r⟩ := RDs.split b; ⟨_ :: us, u, by rw [e]; rfl, .cons a q, r⟩

/-- the id of a method -/
def mbName : MB → Str
  | .get => "get"
  | .pop => "pop"
  | .append => "append"
def mbId : MB → Bool → Option String
  | .get, true => some "dict.get"
  | .pop, true => some "dict.pop"
  | .pop, false => some "list.pop"
  | .append, false => some "list.append"
  | _, _ => none

theorem getMethod_ok {m : MB} {x : V} {u : Value} {kd : Bool} {id : String} {pl : Sem Bool} (O : Ok G c) (S : Sim G c g h s.heap) (r : VV G c g x u) (e : mkind h x = some kd) (hid : mbId m kd = some id) :
    Ev G c (getMethod u (mbName m) pl) g s h (fun g' p => p = (.builtin id, [u]) ∧ g' = g) := fun E Q k => by
  unfold mkind at e
  split at e
  · rename_i n
    cases r with
    | loc ha =>
      rename_i a
      split at e
      · rename_i l hn
        cases e
        obtain ⟨bb, hb, rr⟩ := S.blockAt hn ha
        cases rr with
        | list q =>
          rename_i ws n'
          have ho := S.here (S.inMu hb (.head _))
          cases m with
          | get => cases hid
          | pop => cases hid; exact getMethod_builtin ⟨_, ho, rfl⟩ PySem.F.plainAttrs_list PySem.F.slot_list_pop PySem.F.type_list_pop (fun a e => by cases e; exact ⟨_, ho, rfl⟩) (k _ _ g S (.refl _) (.refl _) ⟨rfl, rfl⟩)
          | append => cases hid; exact getMethod_builtin ⟨_, ho, rfl⟩ PySem.F.plainAttrs_list PySem.F.slot_list_append PySem.F.type_list_append (fun a e => by cases e; exact ⟨_, ho, rfl⟩) (k _ _ g S (.refl _) (.refl _) ⟨rfl, rfl⟩)
      · rename_i l hn
        cases e
        obtain ⟨bb, hb, rr⟩ := S.blockAt hn ha
        cases rr with
        | idict z p q =>
          rename_i o kvs
          have ho := S.here (S.inMu hb (.head _))
          have hm : s.heap.DictOf (intKind G.prog G.w) a kvs := Heap.dictOf_iff.mpr ⟨o, ho, p⟩
          cases m with
          | append => cases hid
          | pop => cases hid; exact getMethod_builtin hm.typeIs PySem.F.plainAttrs_dict PySem.F.slot_dict_pop PySem.F.type_dict_pop hm.mapOf.noDict (k _ _ g S (.refl _) (.refl _) ⟨rfl, rfl⟩)
          | get => cases hid; exact getMethod_builtin hm.typeIs PySem.F.plainAttrs_dict PySem.F.slot_dict_get PySem.F.type_dict_get hm.mapOf.noDict (k _ _ g S (.refl _) (.refl _) ⟨rfl, rfl⟩)
      · cases e
  · cases e

theorem kl_last_of (y : Value) : ∀ p : List Value, kl_last (p ++ [y]) = some (p, y) := kpa_last y

theorem methB_ok (O : Ok G c) {m : MB} {x : V} {u : Value} {vs : List V} {us : List Value} {v : V} (S : Sim G c g h s.heap) (r : VV G c g x u) (rs : VVs G c g vs us) (e : methB h m x vs = some (v, h')) {kd : Bool} (hk : mkind h x = some kd) :
    ∃ id, mbId m kd = some id ∧ Ev G c (call (.builtin id) ([u] ++ us)) g s h' (fun g' u => VV G c g' v u) := by
  unfold methB at e
  split at e
  · rename_i n
    cases r with
    | loc ha =>
      rename_i a
      split at e
      · -- dict.get
        rename_i l kk hn
        simp only [Option.some.injEq, Prod.mk.injEq] at e
        obtain ⟨rfl, rfl⟩ := e
        have : kd = true := by simp only [mkind, hn] at hk; exact (Option.some.inj hk).symm
        subst this
        refine ⟨_, rfl, fun E Q k => ?_⟩
        cases rs with
        | cons r0 rn =>
          cases rn
          obtain ⟨t, rfl⟩ := rd_int (h := h) r0 rfl
          obtain ⟨bb, hb, rr⟩ := S.blockAt hn ha
          cases rr with
          | idict z p q =>
            refine kdg_get1 S.news (S.inMu hb (.head _)) p z (int_is _ _) _ rfl ?_
            refine k _ _ g S (.refl _) ⟨rfl, rfl⟩ ?_
            have f := q.find (k := kk)
            cases hf : findI kk l with
            | none => rw [f.2 hf]; exact .d .none
            | some z => obtain ⟨w, h1, h2⟩ := f.1 _ hf; rw [h1]; exact .d h2
      · -- dict.pop
        rename_i l kk hn
        split at e
        case isFalse => cases e
        rename_i hsh
        simp only [Option.some.injEq, Prod.mk.injEq] at e
        obtain ⟨rfl, rfl⟩ := e
        have : kd = true := by simp only [mkind, hn] at hk; exact (Option.some.inj hk).symm
        subst this
        refine ⟨_, rfl, fun E Q k => ?_⟩
        cases rs with
        | cons r0 rn =>
          cases rn with
          | cons r1 rn =>
            cases rn
            obtain ⟨t, rfl⟩ := rd_int (h := h) r0 rfl
            have := none_is r1; subst this
            obtain ⟨bb, hb, rr⟩ := S.blockAt hn ha
            cases rr with
            | idict z p q =>
              rename_i o kvs
              have hmem := S.inMu hb (List.Mem.head _)
              have hm : s.heap.DictOf (intKind G.prog G.w) a kvs := Heap.dictOf_iff.mpr ⟨o, S.here hmem, p⟩
              have f := q.find (k := kk)
              cases hf : findI kk l with
              | none =>
                rw [hf] at k
                have e1 : dropI kk l = l := by
                  clear k f q hb hn hsh
                  induction l with
                  | nil => rfl
                  | cons p l ih =>
                    obtain ⟨j, y⟩ := p
                    unfold findI at hf
                    unfold dropI
                    split at hf
                    · cases hf
                    · rename_i hne; rw [if_neg hne, ih hf]
                have e2 : h.set n (.idict (dropI kk l)) = h := by
                  rw [e1]
                  apply List.ext_getElem?
                  intro j
                  rw [List.getElem?_set]
                  split
                  · rename_i hj; subst hj; rw [if_pos (List.getElem?_eq_some_iff.mp hn).1, hn]
                  · rfl
                rw [e2] at k
                exact call_meetsIn PySem.F.slot_dict_pop hm.typeIs PySem.F.entry_dict_pop (PySem.F.args_dict_pop_3 _ _ _) (meets_dict_pop_default (intKind G.prog G.w) a (int_is kk t) z rfl .none) ⟨kvs, hm, f.2 hf, k _ _ g S (.refl _) ⟨rfl, rfl⟩ (.d .none)⟩
              | some zz =>
                rw [hf] at k
                obtain ⟨w, h1, h2⟩ := f.1 _ hf
                have hlen : kvs.length ≤ sizeLine := by
                  have := short_le hsh
                  rw [sizeLine_eq, q.length]; omega
                refine call_meetsIn PySem.F.slot_dict_pop hm.typeIs PySem.F.entry_dict_pop (PySem.F.args_dict_pop_3 _ _ _) (meets_dict_pop_there (intKind G.prog G.w) a (int_is kk t) [.none] (.inr ⟨_, rfl⟩) rfl) ⟨kvs, w, hm, hlen, h1, fun H hm' hs => ?_⟩
                obtain ⟨o', ho', hd'⟩ := Heap.dictOf_iff.mp hm'
                have N0 := S.news _ hmem
                have N' := (News.ahead S.news hmem).setHead (fun p hp => by simpa using (List.mem_filter.mp hp).2) hs ho'
                exact k _ _ _ (S.update hb (.head _) hn ha (S.fr.change hs N0.2.1 N0.2.2) N' (by rw [rep_single]; exact .idict z hd' (q.drop (dict_nodup p)))) (Gh.le_set _ _ _) ⟨rfl, rfl⟩ (.d h2)
      · -- list.pop
        rename_i l hn
        have : kd = false := by simp only [mkind, hn] at hk; exact (Option.some.inj hk).symm
        subst this
        refine ⟨_, rfl, fun E Q k => ?_⟩
        split at e
        · rename_i zz rr' hrev
          split at e
          · rename_i hs
            simp only [Option.some.injEq, Prod.mk.injEq] at e
            obtain ⟨rfl, rfl⟩ := e
            cases rs
            obtain ⟨e1, e2⟩ := pop_last hrev
            obtain ⟨bb, hb, rr⟩ := S.blockAt hn ha
            cases rr with
            | list q =>
              rename_i ws n'
              have hmem := S.inMu hb (List.Mem.head _)
              rw [e1] at q
              obtain ⟨us, u, rfl, q1, q2⟩ := q.split
              have l1 := short_le hs
              rw [e1] at l1
              simp only [List.length_append, List.length_cons, List.length_nil] at l1
              refine kl_pop S.fr (News.ahead S.news hmem) (by rw [List.toList_toArray]; exact kl_last_of u us) (.head fun p hp => by simpa using (List.mem_filter.mp hp).2) (by rw [List.toList_toArray, sizeLine_eq, List.length_append, q1.length]; show l.dropLast.length + 1 ≤ 16777216; omega) fun H F' N' => ?_
              exact k _ _ _ (S.update hb (.head _) hn ha F' N' (by rw [rep_single]; exact .list q1)) (Gh.le_set _ _ _) ⟨rfl, rfl⟩ (.d q2)
          · cases e
        · cases e
      · -- list.append
        rename_i l xx hn
        have : kd = false := by simp only [mkind, hn] at hk; exact (Option.some.inj hk).symm
        subst this
        refine ⟨_, rfl, fun E Q k => ?_⟩
        split at e
        · rename_i hs
          simp only [Option.some.injEq, Prod.mk.injEq] at e
          obtain ⟨rfl, rfl⟩ := e
          cases rs with
          | cons r0 rn =>
            rename_i uu _
            cases rn
            obtain ⟨bb, hb, rr⟩ := S.blockAt hn ha
            cases rr with
            | list q =>
              rename_i ws n'
              have hmem := S.inMu hb (List.Mem.head _)
              have l1 := short_le hs
              refine append_K S.fr (News.ahead S.news hmem) (.head fun p hp => by simpa using (List.mem_filter.mp hp).2) (fun H F' N' => ?_) (by rw [sizeLine_eq, List.size_toArray, q.length]; omega)
              refine k _ _ _ (S.update hb (.head _) hn ha F' N' ?_) (Gh.le_set _ _ _) ⟨rfl, rfl⟩ (.d .none)
              rw [rep_single]
              have : ws.toArray.push uu = (ws ++ [uu]).toArray := List.push_toArray _ _
              rw [this]
              exact .list (q.append (.cons (rd_d r0 rfl) .nil))
        · cases e
      · cases e
  · cases e
end Mine
end
section
open PySem PySem.W PyProof.Rows PySem.Calls PySem.SeqAt
set_option linter.unusedVariables false
namespace Mine
variable {G : Gl} {α β : Type} {c : Cx} {g : Gh} {s : Shared} {h h' h₁ h₂ : List O}

/-- what the written part says of a class of the text's -/
structure ClsOk (K : Frag) (T : Tab) (C : Nat) : Prop where
  sa : findIn K (.ref C) "__setattr__" = some (some (.builtin "object.__setattr__"))
  po : plainOver K C = true
  hd : hasDictIn K C = true
  pg : ∀ x, plainGet K C x = true
  at_ : ∀ x ∈ attrNames, takerIn K C x = some none ∧ ∃ a, findIn K (.ref C) x = some a ∧ noGet K a = true
  mkC : makesIn K C = true
  kp : keepIn K (.ref C) = true
  ms : ∀ cl, findN C T.clss = some cl → findIn K (.ref C) "__init__" = some (some (.ref cl.init)) ∧ isFn K (.ref cl.init) = true ∧
    ∀ n f, findS n cl.meths = some f → findIn K (.ref C) n = some (some (.ref f)) ∧ isFn K (.ref f) = true ∧ keepIn K (.ref f) = true

theorem attrName_mem {x : Str} (e : attrName x = true) : x ∈ attrNames := by
  obtain ⟨y, hy, q⟩ := List.any_eq_true.mp e
  rw [(strEq_iff _ _).mp q]; exact hy

theorem strEq_symm (a b : Str) : strEq a b = strEq b a := by
  cases h1 : strEq a b <;> cases h2 : strEq b a <;> first | rfl | (exfalso; first | (rw [(strEq_iff _ _).mp h1] at h2; rw [(strEq_iff _ _).mpr rfl] at h2; cases h2) | (rw [(strEq_iff _ _).mp h2] at h1; rw [(strEq_iff _ _).mpr rfl] at h1; cases h1))
theorem isStr_iff {k : Str} {v : Value} {j : Str} {t : Tok} (e : v = .str j t) : v.isStr k = strEq k j := by
  subst e
  show (j == k) = strEq k j
  rw [strEq_symm]
  by_cases q : j = k
  · subst q; rw [(strEq_iff _ _).mpr rfl]; simp
  · cases hh : strEq j k
    · simp [q]
    · exact absurd ((strEq_iff _ _).mp hh) q
theorem ADs.refKey {P : Params} {kn : Addr → Obj → Prop} {as : List Addr} : ∀ {m es}, ADs (prog := G.prog) (w := G.w) P kn as m es → es.any (·.refKey) = false
  | _, _, .nil => rfl
  | _, _, .cons a b d e => by
    obtain ⟨t, b⟩ := b
    rw [List.any_cons, e.refKey, Bool.or_false]
    simp [DictEntry.refKey, b]
theorem ADs.get {P : Params} {kn : Addr → Obj → Prop} {as : List Addr} {n : Str} : ∀ {m es}, ADs (prog := G.prog) (w := G.w) P kn as m es →
    (∀ v, findS n m = some v → ∃ u, getL n es = some (some u) ∧ VR G.prog G.w kn as v u) ∧ (findS n m = none → getL n es = some none)
  | _, _, .nil => ⟨fun _ e => (by cases e), fun _ => rfl⟩
  | (k, x) :: m, e :: es, .cons a b d r => by
    have ih := ADs.get (n := n) r
    obtain ⟨t, b⟩ := b
    have hb := isStr_iff (k := n) b
    have hrk : e.refKey = false := by simp [DictEntry.refKey, b]
    unfold findS getL
    rw [List.find?_cons, hb, List.any_cons, hrk, Bool.false_or]
    cases q : strEq n k with
    | true => exact ⟨fun v e => by cases e; exact ⟨_, rfl, d⟩, fun e => by cases e⟩
    | false => exact ih
theorem ADs.put {P : Params} {kn : Addr → Obj → Prop} {as : List Addr} {n : Str} {v : V} {u : Value} {hsh : Int} {t : Tok} (q : VR G.prog G.w kn as v u) : ∀ {m es}, ADs (prog := G.prog) (w := G.w) P kn as m es →
    ADs (prog := G.prog) (w := G.w) P kn as (putS n v m) (putL n hsh (.str n t) u es)
  | _, _, .nil => .cons (by show (n == n) = true; simp) ⟨t, rfl⟩ q .nil
  | (k, x) :: m, e :: es, .cons a b d r => by
    obtain ⟨t', b⟩ := b
    have hb := isStr_iff (k := n) b
    unfold putS putL
    rw [hb]
    cases z : strEq n k with
    | true => exact .cons a ⟨t', b⟩ q r
    | false => exact .cons a ⟨t', b⟩ d (ADs.put q r)
theorem ADs.length {P : Params} {kn : Addr → Obj → Prop} {as : List Addr} : ∀ {m es}, ADs (prog := G.prog) (w := G.w) P kn as m es → es.length = m.length
  | _, _, .nil => rfl
  | _, _, .cons _ _ _ r => by simp [r.length]
theorem putS_len {α : Type} {k : Str} {x : α} : ∀ {m : List (Str × α)}, (putS k x m).length ≤ m.length + 1
  | [] => Nat.le_refl _
  | (j, y) :: m => by
    unfold putS
    split
    · simp
    · have := putS_len (k := k) (x := x) (m := m); simp; omega

section
variable {T : Tab} {x : V} {a : Value} {v : V}

theorem attr_ok (O : Ok G c) (CK : ∀ C, G.cg C → ClsOk G.K T C) {n : Str} (hn : attrName n = true) (S : Sim G c g h s.heap) (r : VV G c g x a) (e : attrV h x n = some v) :
    Ev G c (getAttr a n true) g s h (fun g' u => VV G c g' v u) := fun E Q k => by
  unfold attrV at e
  split at e
  · rename_i m
    split at e
    · rename_i C l hm
      split at e
      · cases e
      · rename_i hb
        cases r with
        | loc ha =>
          obtain ⟨bb, hbb, rr⟩ := S.blockAt hm ha
          cases rr with
          | attrs hc q =>
            rename_i xa dx es nn
            have K := CK C hc
            obtain ⟨u, h1, h2⟩ := q.get.1 v e
            obtain ⟨-, at', h3, h4⟩ := K.at_ n (attrName_mem hn)
            have I := InstAt.of_news S.news (S.inMu hbb (.head _)) (S.inMu hbb (.tail _ (.head _)))
            have hv : handedIn u = true := by
              cases h2 with
              | d z => cases z <;> rfl
              | bad => exact absurd e hb
              | _ => rfl
            exact get_own S.fr O.K I (K.pg n) K.hd h3 h4 h1 hv (k _ _ g S (.refl _) ⟨rfl, rfl⟩ h2)
    · cases e
  · cases e

theorem instOf (S : Sim G c g h s.heap) {m C : Nat} {l : List (Str × V)} (hm : h[m]? = some (.attrs C l)) (r : VV G c g (.loc m) a) :
    ∃ xa dx es n, a = .ref xa ∧ G.cg C ∧ InstAt s.heap xa (instObj C dx) C (some (dictOf es n)) ∧ ADs (prog := G.prog) (w := G.w) G.w.params (kn c g) g.as l es ∧ g.mu[m]? = some [(xa, instObj C dx), (dx, dictOf es n)] ∧ g.as[m]? = some xa := by
  cases r with
  | loc ha =>
    obtain ⟨bb, hbb, rr⟩ := S.blockAt hm ha
    cases rr with
    | attrs hc q => exact ⟨_, _, _, _, rfl, hc, InstAt.of_news S.news (S.inMu hbb (.head _)) (S.inMu hbb (.tail _ (.head _))), q, hbb, ha⟩

theorem method_ok (O : Ok G c) (CK : ∀ C, G.cg C → ClsOk G.K T C) {m C : Nat} {l : List (Str × V)} {n : Str} {cl : Cl} {f : Nat} {pl : Sem Bool} (S : Sim G c g h s.heap) (hm : h[m]? = some (.attrs C l)) (r : VV G c g (.loc m) a)
    (hn : findS n l = none) (hc : findN C T.clss = some cl) (hf : findS n cl.meths = some f) :
    Ev G c (getMethod a n pl) g s h (fun g' p => p = (.ref f, [a]) ∧ g' = g) := fun E Q k => by
  obtain ⟨xa, dx, es, nn, rfl, hcg, I, q, _, _⟩ := instOf S hm r
  have K := CK C hcg
  obtain ⟨h1, h2, h3⟩ := (K.ms cl hc).2.2 n f hf
  exact method_inst S.fr O.K I (K.pg n) h1 h2 (q.get.2 hn) (k _ _ g S (.refl _) (.refl _) ⟨rfl, rfl⟩)

theorem setA_ok (O : Ok G c) (CK : ∀ C, G.cg C → ClsOk G.K T C) {n : Str} {u : Value} (hn : attrName n = true) (S : Sim G c g h s.heap) (r : VV G c g x a) (rv : VV G c g v u) (e : setA h x n v = some h') :
    Ev G c (setAttr a n u) g s h' (fun g' _ => True) := fun E Q k => by
  unfold setA at e
  split at e
  · rename_i m
    split at e
    · rename_i C l hm
      split at e
      · rename_i hl
        cases e
        have hl' : l.length < 900 := Nat.blt_eq ▸ hl
        obtain ⟨xa, dx, es, nn, rfl, hcg, I, q, hbb, ha⟩ := instOf S hm r
        have K := CK C hcg
        obtain ⟨h3, -⟩ := K.at_ n (attrName_mem hn)
        have hmem := S.inMu hbb (List.Mem.tail _ (List.Mem.head _))
        have hmem1 := S.inMu hbb (List.Mem.head _)
        have hne : xa ≠ dx := by
          intro e
          subst e
          have h1 := S.here hmem
          have h2 := S.here hmem1
          rw [h1] at h2
          cases h2
        have hsome : (getL n es).isSome = true := by
          have := q.get (n := n)
          cases hf : findS n l with
          | none => rw [this.2 hf]; rfl
          | some z => obtain ⟨w, h1, _⟩ := this.1 z hf; rw [h1]; rfl
        have hput : ∀ (hsh : Int) (t : Tok), (putL n hsh (.str n t) u es).length ≤ 1000 := fun hsh t => by
          have h1 := (ADs.put (P := G.w.params) (n := n) (hsh := hsh) (t := t) rv q).length
          have h2 := putS_len (k := n) (x := v) (m := l)
          omega
        refine set_dict S.fr O.K (News.ahead S.news hmem) I rfl K.sa K.po h3 K.hd hsome rfl (.head fun p hp => by simpa using (List.mem_filter.mp hp).2) (hput _ _) fun H F' N' => ?_
        refine k .unit _ _ (S.update hbb (.tail _ (.head _)) hm ha F' N' ?_) (Gh.le_set _ _ _) ⟨rfl, rfl⟩ trivial
        have : rep dx (dictOf (putL n (PyData.keyHash G.w.params n) (.str n (s.toks + 1)) u es) (putN n es nn)) [(xa, instObj C dx), (dx, dictOf es nn)] = [(xa, instObj C dx), (dx, dictOf (putL n (PyData.keyHash G.w.params n) (.str n (s.toks + 1)) u es) (putN n es nn))] := by
          simp [rep, hne]
        rw [this]
        exact .attrs hcg (ADs.put rv q)
      · cases e
    · cases e
  · cases e

theorem setS_ok (O : Ok G c) {y : V} {b u : Value} (S : Sim G c g h s.heap) (r : VV G c g x a) (ry : VV G c g y b) (rv : VV G c g v u) (e : setS h x y v = some h') :
    Ev G c (setItem a b u) g s h' (fun g' _ => True) := fun E Q k => by
  unfold setS at e
  split at e
  · rename_i n i
    obtain ⟨t, rfl⟩ := rd_int (h := h) ry rfl
    cases r with
    | loc ha =>
      rename_i a
      split at e
      · rename_i l x hn
        split at e
        · rename_i hs
          split at e
          · rename_i j hj
            cases e
            have hs' := Bool.and_eq_true_iff.mp hs
            have l1 := short_le hs'.1
            have h0 : 0 ≤ i := by simpa using hs'.2
            obtain ⟨h1, h2, h3, h4⟩ := idx_seq hj
            obtain ⟨bb, hb, rr⟩ := S.blockAt hn ha
            cases rr with
            | list q =>
              rename_i ws n'
              have hmem := S.inMu hb (List.Mem.head _)
              have N0 := S.news _ hmem
              have hij : i.toNat = j := by
                unfold seqIndex? at h1
                simp only [show ¬ (i < 0) by omega, if_false] at h1
                split at h1
                · cases h1; rfl
                · cases h1
              refine ki_setAt N0.1 h0 (by omega) (by rw [List.size_toArray, q.length]; exact h4) ?_
              have N' := ki_turn (pre := []) (n' := n') (its' := (ws.set j u).toArray) (fun x => x.setIfInBounds i.toNat u) (News.ahead S.news hmem) (fun _ h => nomatch h) (fun p hp => by simpa using (List.mem_filter.mp hp).2)
                (by rw [hij]; apply Array.toList_inj.mp; simp) (by simp)
              exact k .unit _ _ (S.update hb (.head _) hn ha (S.fr.change (Heap.SameBut.update ..) N0.2.1 N0.2.2) N' (by rw [rep_single]; exact .list (q.set j (rd_d rv rfl)))) (Gh.le_set _ _ _) ⟨rfl, rfl⟩ trivial
          · cases e
        · cases e
      · rename_i m x hn
        split at e
        · rename_i hs
          cases e
          have l1 := short_le hs
          obtain ⟨bb, hb, rr⟩ := S.blockAt hn ha
          cases rr with
          | idict z p q =>
            have hmem := S.inMu hb (List.Mem.head _)
            refine kda_set S.fr (News.ahead S.news hmem) upd_ahead p (int_is _ _) (by rw [sizeLine_eq, q.length]; omega) fun H o' F' N' hd' => ?_
            exact k .unit _ _ (S.update hb (.head _) hn ha F' N' (by rw [rep_single]; exact .idict z hd' (q.put (rd_d rv rfl) (dict_nodup p)))) (Gh.le_set _ _ _) ⟨rfl, rfl⟩ trivial
        · cases e
      · rename_i m x hn
        split at e
        · rename_i hs
          cases e
          have l1 := short_le hs
          obtain ⟨bb, hb, rr⟩ := S.blockAt hn ha
          cases rr with
          | iidict z p q =>
            have hmem := S.inMu hb (List.Mem.head _)
            have hl : ∀ {m kvs}, PDD (prog := G.prog) (w := G.w) (kn c g) m kvs → kvs.length = m.length := fun q => by
              have := congrArg List.length q.keys; simpa using this
            refine kda_set S.fr (News.ahead S.news hmem) upd_ahead p (int_is _ _) (by rw [sizeLine_eq, hl q]; omega) fun H o' F' N' hd' => ?_
            have rv' : VR G.prog G.w (kn c g) [] (.idict x) u := by
              cases rv with
              | idict k1 k2 k3 k4 => exact .idict k1 k2 k3 k4
            exact k .unit _ _ (S.update hb (.head _) hn ha F' N' (by rw [rep_single]; exact .iidict z hd' (q.put rv' (dict_nodup p)))) (Gh.le_set _ _ _) ⟨rfl, rfl⟩ trivial
        · cases e
      · cases e
  · cases e
end
end Mine
end
section
open PySem PySem.W PyProof.Rows PySem.Calls PySem.SeqAt
set_option linter.unusedVariables false
namespace Mine
variable {G : Gl} {α β : Type} {c : Cx} {g : Gh} {s : Shared} {h h' h₁ h₂ : List O}

def GvOk (G : Gl) (x : Str) : GV → Prop
  | .fn a => nsIn G.K mainGlobals x = some (some (.ref a)) ∧ keepIn G.K (.ref a) = true
  | .cls a => nsIn G.K mainGlobals x = some (some (.ref a)) ∧ G.cg a
  | .bi b => nsIn G.K mainGlobals x = some none ∧ bootBuiltins x = some (biVal b) ∧ x ≠ "__name__"
  | .rng => nsIn G.K mainGlobals x = some none ∧ bootBuiltins x = some (.type "range") ∧ x ≠ "__name__"
  | .val v => ∃ u, nsIn G.K mainGlobals x = some (some u) ∧ VR G.prog G.w (fun a o => G.K.lookup a = some o) [] v u

structure CeOk (G : Gl) (ce : CE) (c : Cx) : Prop where
  gl : ∀ x gv, ce.gl x = some gv → GvOk G x gv
  glk : ∀ x, isGl x ce.names = true → c.env.kindOf x = some .globalImplicit
  look : ∀ x i, slotAt x ce.names 0 = some i → ∃ k, ce.names[i]? = some (x, k) ∧ lookable k = true
  nd : (ce.names.map (·.1)).Nodup
  loc : ∀ x, kindAt x ce.names = some .local → c.env.kindOf x = some .local
  cell : ∀ x, kindAt x ce.names = some .cell → c.env.kindOf x = some .cell ∧ ∃ a, c.env.cells.lookup x = some a

structure RecOk (G : Gl) (r : Rec) (n : Nat) : Prop where
  fail : ∀ ρ h, r.ev .fail ρ h = none
  ev : ∀ c, Ok G c → Room n c.A → ∀ k ce x ρ h v h', CeOk G ce c → r.ev (cE k ce x) ρ h = some (v, h') → EvX G c ce.names x ρ h v h'
  call : ∀ c, Ok G c → Room n c.A → ∀ f vs h v h', r.call f vs h = some (v, h') → ∀ g s us, Sim G c g h s.heap → VVs G c g vs us → ∀ (R : Result → Shared → Prop),
    (∀ u s' g', Sim G c g' h' s'.heap → g.le g' → Same s s' → VV G c g' v u → R (.ok (.ret u)) s') → codeAny (model G.prog G.w) c.A (.call (.ref f) ⟨us, []⟩) R s

/-- what stands about a step -/
structure Hyp (G : Gl) (T : Tab) (r : Rec) (n : Nat) (c : Cx) (ce : CE) : Prop where
  IH : RecOk G r n
  ok : Ok G c
  Rm : Room (n + 1) c.A
  Ck : CeOk G ce c
  CK : ∀ C, G.cg C → ClsOk G.K T C
variable {T : Tab} {r : Rec} {n k : Nat} {ce : CE} {ρ : Rho} {v : V}
theorem Room.less {n m : Nat} {A : Around} (h : Room m A) (l : n ≤ m) : Room n A := ⟨by have := h.1; omega, by have := h.2; omega⟩
theorem Hyp.Rn (H : Hyp G T r n c ce) : Room n c.A := H.Rm.less (Nat.le_succ _)
theorem Hyp.hu (H : Hyp G T r n c ce) : c.A.units + 200 < cLine := by have := H.Rm.2; omega
theorem Hyp.ev (H : Hyp G T r n c ce) {k : Nat} {x : PySem.Expr} {ρ : Rho} {h h' : List O} {v : V} (e : r.ev (cE k ce x) ρ h = some (v, h')) : EvX G c ce.names x ρ h v h' := H.IH.ev c H.ok H.Rn k ce x ρ h v h' H.Ck e

theorem evs_ok (H : Hyp G T r n c ce) : ∀ {xs : List PySem.Expr} {h h' : List O} {vs : List V}, evs r ρ (xs.map (cE k ce)) h = some (vs, h') → EvXs G c ce.names ρ xs h vs h'
  | [], _, _, _, e => by cases e; exact .nil _
  | x :: xs, h, h', vs, e => by
    rw [List.map_cons] at e
    unfold evs at e
    split at e
    · rename_i v h₁ e1
      split at e
      · rename_i us h₂ e2
        cases e
        exact .cons _ _ _ _ _ _ _ (H.ev e1) (evs_ok H e2)
      · cases e
    · cases e

theorem evOf_name (H : Hyp G T r n c ce) {x : Str} {p : Pos} (e : stepEv T r (cE (k + 1) ce (.Name x p)) ρ h = some (v, h')) : EvX G c ce.names (.Name x p) ρ h v h' := by
  intro g s S Vs
  unfold cE at e
  dsimp only at e
  split at e
  · cases e
  · rename_i hr
    have hr' : reserved x = false := by
      cases q : reserved x
      · rfl
      · rw [q] at hr; exact absurd rfl hr
    split at e
    · rename_i i hi
      obtain ⟨kk, h1, h2⟩ := H.Ck.look x i hi
      unfold stepEv at e
      dsimp only at e
      split at e
      · rename_i v' hv
        cases e
        obtain ⟨u, h3, h4⟩ := Vs i x kk _ h1 h2 hv
        exact ev_name H.ok S h3 hr' h4
      · cases e
    · split at e
      · rename_i hg
        split at e
        · rename_i v' hv
          cases e
          obtain ⟨u, h1, h2⟩ := H.Ck.gl _ _ hv
          exact ev_global H.ok S (H.Ck.glk _ hg) hr' h1 (h2.mono (fun a o q => .inl (H.ok.Kb a o q)) List.nil_prefix)
        · cases e
      · cases e

theorem plain_of {es : List PySem.Expr} (h : plainArgs es = true) : es.all plainArg = true ∧ es.length ≤ 20 := by
  unfold plainArgs at h
  have := Bool.and_eq_true_iff.mp h
  exact ⟨this.1, Nat.le_of_ble_eq_true this.2⟩

theorem evOf_tuple (H : Hyp G T r n c ce) {es : List PySem.Expr} {i : Nat} {p : Pos} (e : stepEv T r (cE (k + 1) ce (.Tuple es i p)) ρ h = some (v, h')) : EvX G c ce.names (.Tuple es i p) ρ h v h' := by
  intro g s S Vs
  unfold cE at e
  dsimp only at e
  split at e
  · rename_i hp
    have hp' := plain_of hp
    unfold stepEv at e
    dsimp only at e
    split at e
    · rename_i vs h1 e1
      cases e
      exact ev_tuple S Vs (evs_ok H e1) hp'.1 (by omega)
    · cases e
  · cases e
theorem evOf_list (H : Hyp G T r n c ce) {es : List PySem.Expr} {p : Pos} (e : stepEv T r (cE (k + 1) ce (.List es p)) ρ h = some (v, h')) : EvX G c ce.names (.List es p) ρ h v h' := by
  intro g s S Vs
  unfold cE at e
  dsimp only at e
  split at e
  · rename_i hp
    have hp' := plain_of hp
    unfold stepEv at e
    dsimp only at e
    split at e
    · rename_i vs h1 e1
      exact ev_list S Vs (evs_ok H e1) hp'.1 (by omega) e
    · cases e
  · cases e
theorem evOf_const (H : Hyp G T r n c ce) {x : Const} {i : Nat} {p : Pos} (e : stepEv T r (cE (k + 1) ce (.Constant x i p)) ρ h = some (v, h')) : EvX G c ce.names (.Constant x i p) ρ h v h' := by
  intro g s S Vs
  cases x <;> first | (unfold cE stepEv at e; cases e; done) | skip
  · unfold cE stepEv at e; cases e; exact ev_none S (.d .none)
  · unfold cE stepEv at e; cases e; exact ev_bool S (.d (.bool _))
  · unfold cE stepEv at e; cases e; exact ev_int S fun _ => .d (.int _ _)
  · unfold cE stepEv at e; cases e; exact ev_str S fun _ => .d (.str _ _)

theorem evOf_bin (H : Hyp G T r n c ce) {x y : PySem.Expr} {op : Operator} {p : Pos} (e : stepEv T r (cE (k + 1) ce (.BinOp x op y p)) ρ h = some (v, h')) : EvX G c ce.names (.BinOp x op y p) ρ h v h' := by
  intro g s S Vs E Q q
  unfold cE stepEv at e
  dsimp only at e
  split at e
  · cases e
  · rename_i v1 h1 e1
    split at e
    · cases e
    · rename_i v2 h2 e2
      split at e
      · rename_i v3 e3
        cases e
        refine wpAny_BinOp (H.ev e1 g s S Vs E _ fun a s₁ g₁ S₁ l₁ q₁ p₁ => H.ev e2 g₁ s₁ S₁ (Vs.le l₁) E _ fun b s₂ g₂ S₂ l₂ q₂ p₂ => ?_)
        exact bin_ok H.ok S₂ (VV.le l₂ p₁) p₂ e3 E Q fun u s₃ g₃ S₃ l₃ q₃ p₃ => q _ _ _ S₃ ((l₁.trans l₂).trans l₃) ((q₁.trans q₂).trans q₃) p₃
      · cases e

theorem evOf_cmp (H : Hyp G T r n c ce) {x y : PySem.Expr} {op : CmpOp} {p : Pos} (e : stepEv T r (cE (k + 1) ce (.Compare x [op] [y] p)) ρ h = some (v, h')) : EvX G c ce.names (.Compare x [op] [y] p) ρ h v h' := by
  intro g s S Vs E Q q
  unfold cE at e
  dsimp only at e
  split at e
  · cases e
  rename_i hmk
  have hmk' : behindInMarks op y = false := by
    cases q : behindInMarks op y
    · rfl
    · exact absurd q hmk
  unfold stepEv at e
  dsimp only at e
  split at e
  · cases e
  · rename_i v1 h1 e1
    split at e
    · cases e
    · rename_i v2 h2 e2
      split at e
      · rename_i v3 e3
        cases e
        refine wpAny_Compare1 (H.ev e1 g s S Vs E _ fun a s₁ g₁ S₁ l₁ q₁ p₁ => H.ev e2 g₁ s₁ S₁ (Vs.le l₁) E _ fun b s₂ g₂ S₂ l₂ q₂ p₂ => ?_) hmk'
        exact cmp_ok H.ok S₂ H.hu (VV.le l₂ p₁) p₂ e3 E Q fun u s₃ g₃ S₃ l₃ q₃ p₃ => q _ _ _ S₃ ((l₁.trans l₂).trans l₃) ((q₁.trans q₂).trans q₃) p₃
      · cases e
theorem truthy_ok {b : Bool} {u : Value} (e : truthy v = some b) (rv : VV G c g v u) : u = .bool b := by
  unfold truthy at e
  split at e
  · cases e; cases rv with | d q => cases q; rfl
  · cases e
theorem evOf_cmp2 (H : Hyp G T r n c ce) {x y z : PySem.Expr} {op op' : CmpOp} {p : Pos} (e : stepEv T r (cE (k + 1) ce (.Compare x [op, op'] [y, z] p)) ρ h = some (v, h')) : EvX G c ce.names (.Compare x [op, op'] [y, z] p) ρ h v h' := by
  intro g s S Vs E Q q
  unfold cE at e
  dsimp only at e
  split at e
  · cases e
  rename_i hmk
  have hmk' : behindInMarks op' z = false := by
    cases q : behindInMarks op' z
    · rfl
    · exact absurd q hmk
  unfold stepEv at e
  dsimp only at e
  split at e
  · cases e
  · rename_i v1 h1 e1
    split at e
    · cases e
    · rename_i v2 h2 e2
      split at e
      · cases e
      · rename_i v3 e3
        have m2 : lastMarks [op, op'] [y, z] = false → wpAny (model G.prog G.w) c.A (eval (.Compare x [op, op'] [y, z] p) c.env) Q E s := fun hm => by
          refine Compare_chain (H.ev e1 g s S Vs E _ fun a s₁ g₁ S₁ l₁ q₁ p₁ => ?_) hm
          unfold compareChain
          refine wpAny_bind (wpAny_holding (H.ev e2 g₁ s₁ S₁ (Vs.le l₁) E _ fun b s₂ g₂ S₂ l₂ q₂ p₂ => ?_))
          refine wpAny_bind (wpAny_standAt (wpAny_bind (wpAny_holding (cmp_ok H.ok S₂ H.hu (VV.le l₂ p₁) p₂ e3 E _ fun u s₃ g₃ S₃ l₃ q₃ p₃ => ?_))))
          refine wpAny_bind (wpAny_release' ?_)
          split at e
          · cases e
          · rename_i ht
            cases e
            have := truthy_ok ht p₃
            subst this
            refine wpAny_bind (wpAny_holding (wpAny_truthy_bool ?_))
            exact wpAny_pure (q _ _ _ S₃ ((l₁.trans l₂).trans l₃) ((q₁.trans q₂).trans q₃) p₃)
          · rename_i ht
            have := truthy_ok ht p₃
            subst this
            refine wpAny_bind (wpAny_holding (wpAny_truthy_bool ?_))
            rw [if_pos rfl]
            split at e
            · cases e
            · rename_i v4 h4 e4
              split at e
              · rename_i v5 e5
                cases e
                unfold compareChain
                refine wpAny_bind (wpAny_holding (H.ev e4 g₃ s₃ S₃ (Vs.le ((l₁.trans l₂).trans l₃)) E _ fun d s₄ g₄ S₄ l₄ q₄ p₄ => ?_))
                refine wpAny_bind (wpAny_standAt (wpAny_operate' ?_))
                exact cmp_ok H.ok S₄ H.hu (VV.le (l₃.trans l₄) p₂) p₄ e5 E Q fun u s₅ g₅ S₅ l₅ q₅ p₅ => q _ _ _ S₅ ((((l₁.trans l₂).trans l₃).trans l₄).trans l₅) ((((q₁.trans q₂).trans q₃).trans q₄).trans q₅) p₅
              · cases e
        exact m2 (by unfold lastMarks; unfold lastMarks; exact hmk')
end Mine
end
section
open PySem PySem.W PyProof.Rows PySem.Calls PySem.SeqAt
set_option linter.unusedVariables false
namespace Mine
variable {G : Gl} {α β : Type} {c : Cx} {g : Gh} {s : Shared} {h h' h₁ h₂ : List O}
variable {T : Tab} {r : Rec} {n k : Nat} {ce : CE} {ρ : Rho} {v : V}

def testHead : E → Bool
  | .bop _ _ => true
  | .not _ => true
  | .ite _ _ _ => true
  | .cmp2 _ _ _ _ _ => true
  | _ => false
theorem tstN_gen {e : E} {j : Nat} {b : Bool} (hh : testHead e = false) (q : tstN r ρ (j + 1) e h = some (b, h')) : ∃ v, r.ev e ρ h = some (v, h') ∧ truthy v = some b := by
  cases e <;> first | cases hh | skip
  all_goals
    unfold tstN at q
    dsimp only at q
    split at q
    · rename_i v h1 e1
      split at q
      · rename_i b' hb
        cases q
        exact ⟨v, e1, hb⟩
      · cases q
    · cases q
/-- what is known of a test -/
def TsX (G : Gl) (c : Cx) (names : List (Str × NameKind)) (x : PySem.Expr) (ρ : Rho) (h : List O) (b : Bool) (h' : List O) : Prop :=
  ∀ g s, Sim G c g h s.heap → Vars G c g names ρ → ∀ whole, whole = eval x c.env → Ev G c (isTrue x c.env whole) g s h' (fun _ b' => b' = b)

theorem ts_plain (H : Hyp G T r n c ce) {x : PySem.Expr} {j : Nat} {b : Bool} (hh : testHead (cE k ce x) = false) (he : ∀ whole, isTrue x c.env whole = (do let v ← whole; standAt x.pos; holding [v] (PySem.truthy v)))
    (q : tstN r ρ (j + 1) (cE k ce x) h = some (b, h')) : TsX G c ce.names x ρ h b h' := by
  intro g s S Vs whole hw E Q kk
  subst hw
  obtain ⟨v, e1, e2⟩ := tstN_gen hh q
  refine isTrue_plain (H.ev e1 g s S Vs E _ fun u s₁ g₁ S₁ l₁ q₁ p₁ => ?_) (he _)
  have := truthy_ok e2 p₁
  subst this
  exact wpAny_truthy_bool (kk _ _ _ S₁ l₁ q₁ rfl)

theorem ts_all (H : Hyp G T r n c ce) {j : Nat} {op : BoolOp} (ih : ∀ {x : PySem.Expr} {h h' : List O} {b : Bool}, tstN r ρ j (cE k ce x) h = some (b, h') → TsX G c ce.names x ρ h b h') :
    ∀ {xs : List PySem.Expr} {h h' : List O} {b : Bool}, tstA (tstN r ρ j) (isAnd op) (xs.map (cE k ce)) h = some (b, h') →
      ∀ g s, Sim G c g h s.heap → Vars G c g ce.names ρ → Ev G c (allTrue op xs c.env) g s h' (fun _ b' => b' = b)
  | [], _, _, _, e => by
    intro g s S Vs
    cases e
    refine Ev.pure S ?_
    cases op <;> rfl
  | x :: xs, h, h', b, e => by
    intro g s S Vs E Q kk
    rw [List.map_cons] at e
    unfold tstA at e
    split at e
    · rename_i b1 h1 e1
      unfold allTrue
      refine wpAny_bind (ih e1 g s S Vs _ rfl E _ fun b' s₁ g₁ S₁ l₁ q₁ p₁ => ?_)
      subst p₁
      have rest : ∀ {b h'}, (∀ v s' g', Sim G c g' h' s'.heap → g.le g' → Same s s' → v = b → Q v s') → tstA (tstN r ρ j) (isAnd op) (xs.map (cE k ce)) h1 = some (b, h') → wpAny (model G.prog G.w) c.A (allTrue op xs c.env) Q E s₁ := fun kk e => 
        ts_all H ih e g₁ s₁ S₁ (Vs.le l₁) E _ fun b s₂ g₂ S₂ l₂ q₂ p₂ => kk _ _ _ S₂ (l₁.trans l₂) (q₁.trans q₂) p₂
      have pick : ∀ {p : Bool} {X Y : Option (Bool × List Mine.O)}, (if p = true then X else Y) = (match p with | true => X | false => Y) := fun {p} {X} {Y} => by cases p <;> rfl
      rw [pick] at e
      cases op <;> cases b'
      · cases e; exact wpAny_pure (kk _ _ _ S₁ l₁ q₁ rfl)
      · exact rest kk e
      · exact rest kk e
      · cases e; exact wpAny_pure (kk _ _ _ S₁ l₁ q₁ rfl)
    · cases e

theorem cE_zero (x : PySem.Expr) : cE 0 ce x = .fail := by cases x <;> rfl
theorem tst_fail (H : Hyp G T r n c ce) {j : Nat} {z : Bool × List O} (e : tstN r ρ j .fail h = some z) : False := by
  cases j with
  | zero => cases e
  | succ j =>
    unfold tstN at e
    dsimp only at e
    rw [H.IH.fail] at e
    cases e

theorem isTrue_of_eval1 {M : Model} {A : Around} {E : Value → Shared → Prop} {env : Env} {l y : PySem.Expr} {op : CmpOp} {pos : Pos} {whole : Sem Value} {Q : Bool → Shared → Prop}
    (h : wpAny M A (eval (.Compare l [op] [y] pos) env) (fun v s₁ => wpAny M A (PySem.truthy v) Q E s₁) E s) (hm : behindInMarks op y = false) :
    wpAny M A (isTrue (.Compare l [op] [y] pos) env whole) Q E s := fun Γ p hΓ => by
  have q := h Γ p hΓ
  simp only [eval_Compare1, isTrue_Compare1, markedBehindIn_of_false hm, Sem.wp_bind', Sem.wp_holding, Sem.wp_cmd_standAt, Sem.wp_operate] at q ⊢
  exact Sem.wp_mono M Γ _ (fun a p₁ s₁ h₁ => Sem.wp_mono M Γ _ (fun b p₂ s₂ h₂ => Sem.wp_mono M Γ _ (fun c p₃ s₃ h₃ => h₃ Γ p₃ hΓ) (fun _ _ _ z => z) _ _ h₂) (fun _ _ _ z => z) _ _ h₁) (fun _ _ _ z => z) _ _ q

theorem ts_ok (H : Hyp G T r n c ce) : ∀ {j k : Nat} {x : PySem.Expr} {h h' : List O} {b : Bool}, tstN r ρ j (cE k ce x) h = some (b, h') → TsX G c ce.names x ρ h b h'
  | 0, _, _, _, _, _, e => by cases e
  | j + 1, 0, x, h, h', b, e => by rw [cE_zero] at e; exact (tst_fail H e).elim
  | j + 1, k + 1, x, h, h', b, e => by
    have plain : testHead (cE (k + 1) ce x) = false → (∀ whole, isTrue x c.env whole = (do let v ← whole; standAt x.pos; holding [v] (PySem.truthy v))) → TsX G c ce.names x ρ h b h' := fun a q => ts_plain H a q e
    cases x with
    | BoolOp op es p =>
      intro g s S Vs whole hw
      unfold cE tstN at e
      dsimp only at e
      exact ts_all H (fun q => ts_ok H q) e g s S Vs
    | UnaryOp op x p =>
      cases op with
      | Not =>
        intro g s S Vs whole hw E Q kk
        unfold cE tstN at e
        dsimp only at e
        split at e
        · rename_i b1 h1 e1
          cases e
          exact isTrue_not (ts_ok H e1 g s S Vs _ rfl E _ fun b' s₁ g₁ S₁ l₁ q₁ p₁ => kk _ _ _ S₁ l₁ q₁ (by rw [p₁]))
        · cases e
      | _ => exact plain rfl (fun _ => rfl)
    | IfExp t x y p => unfold cE tstN at e; cases e
    | Compare x ops ys p =>
      have bad : cE (k + 1) ce (.Compare x ops ys p) = .fail → TsX G c ce.names (.Compare x ops ys p) ρ h b h' := fun q => by rw [q] at e; exact (tst_fail H e).elim
      match ops, ys with
      | [op], [y] =>
        intro g s S Vs whole hw E Q kk
        have hmk : behindInMarks op y = false := by
          cases q : behindInMarks op y
          · rfl
          · exfalso
            have : cE (k + 1) ce (.Compare x [op] [y] p) = .fail := by unfold cE; dsimp only; rw [if_pos q]
            rw [this] at e
            exact tst_fail H e
        have hth : testHead (cE (k + 1) ce (.Compare x [op] [y] p)) = false := by unfold cE; dsimp only; rw [if_neg (by rw [hmk]; decide)]; rfl
        obtain ⟨v, e1, e2⟩ := tstN_gen hth e
        refine isTrue_of_eval1 (H.ev e1 g s S Vs E _ fun u s₁ g₁ S₁ l₁ q₁ p₁ => ?_) hmk
        have := truthy_ok e2 p₁
        subst this
        exact wpAny_truthy_bool (kk _ _ _ S₁ l₁ q₁ rfl)
      | [op, op'], [y, z] =>
        unfold cE at e
        dsimp only at e
        split at e
        · exact (tst_fail H e).elim
        · unfold tstN at e; cases e
      | [], _ => exact bad (by cases ys <;> rfl)
      | [_], [] => exact bad rfl
      | [_], _ :: _ :: _ => exact bad rfl
      | [_, _], [] => exact bad rfl
      | [_, _], [_] => exact bad rfl
      | [_, _], _ :: _ :: _ :: _ => exact bad rfl
      | _ :: _ :: _ :: _, _ => exact bad rfl
    | Name x p =>
      refine plain ?_ (fun _ => rfl)
      unfold cE
      (try dsimp only)
      (repeat' split) <;> first | rfl | contradiction
    | Constant x i p => refine plain ?_ (fun _ => rfl); cases x <;> rfl
    | BinOp x op y p => exact plain rfl (fun _ => rfl)
    | Call f args kw p =>
      refine plain ?_ (fun _ => rfl)
      unfold cE
      (try dsimp only)
      (repeat' split) <;> first | rfl | contradiction
    | Tuple es i p =>
      refine plain ?_ (fun _ => rfl)
      unfold cE
      (try dsimp only)
      (repeat' split) <;> first | rfl | contradiction
    | Attribute x i p =>
      refine plain ?_ (fun _ => rfl)
      unfold cE
      (try dsimp only)
      (repeat' split) <;> first | rfl | contradiction
    | Subscript x i p =>
      refine plain ?_ (fun _ => rfl)
      unfold cE
      (try dsimp only)
      (repeat' split) <;> first | rfl | contradiction
    | List x p =>
      refine plain ?_ (fun _ => rfl)
      unfold cE
      (try dsimp only)
      (repeat' split) <;> first | rfl | contradiction
    | Dict x y p =>
      refine plain ?_ (fun _ => rfl)
      unfold cE
      (try dsimp only)
      (repeat' split) <;> first | rfl | contradiction
    | ListComp x y z p =>
      refine plain ?_ (fun _ => rfl)
      unfold cE
      (try dsimp only)
      (repeat' split) <;> first | rfl | contradiction
    | DictComp x y z t p =>
      refine plain ?_ (fun _ => rfl)
      unfold cE
      (try dsimp only)
      (repeat' split) <;> first | rfl | contradiction
    | _ => exact plain rfl (fun _ => rfl)
end Mine
end
section
open PySem PySem.W PyProof.Rows PySem.Calls PySem.SeqAt
set_option linter.unusedVariables false
namespace Mine
variable {G : Gl} {α β : Type} {c : Cx} {g : Gh} {s : Shared} {h h' h₁ h₂ : List O}
variable {T : Tab} {r : Rec} {n k : Nat} {ce : CE} {ρ : Rho} {v : V}

theorem ev_not (H : Hyp G T r n c ce) {x : PySem.Expr} {p : Pos} (e : stepEv T r (cE (k + 1) ce (.UnaryOp .Not x p)) ρ h = some (v, h')) : EvX G c ce.names (.UnaryOp .Not x p) ρ h v h' := by
  intro g s S Vs E Q q
  unfold cE stepEv at e
  dsimp only at e
  split at e
  · rename_i v1 h1 e1
    split at e
    · rename_i b hb
      cases e
      refine UnaryOp_ (H.ev e1 g s S Vs E _ fun u s₁ g₁ S₁ l₁ q₁ p₁ => not_of ?_)
      have := truthy_ok hb p₁
      subst this
      exact wpAny_truthy_bool (q _ _ _ S₁ l₁ q₁ (.d (.bool _)))
    · cases e
  · cases e
theorem ev_neg (H : Hyp G T r n c ce) {x : PySem.Expr} {p : Pos} (e : stepEv T r (cE (k + 1) ce (.UnaryOp .USub x p)) ρ h = some (v, h')) : EvX G c ce.names (.UnaryOp .USub x p) ρ h v h' := by
  intro g s S Vs E Q q
  unfold cE stepEv at e
  dsimp only at e
  split at e
  · rename_i i h1 e1
    cases e
    refine UnaryOp_ (H.ev e1 g s S Vs E _ fun u s₁ g₁ S₁ l₁ q₁ p₁ => ?_)
    obtain ⟨t, rfl⟩ := rd_int (h := h') p₁ rfl
    exact PySem.P.neg_int (q _ _ _ S₁ l₁ ⟨q₁.os, q₁.gens⟩ (.d (.int _ _)))
  · cases e
theorem ev_ite (H : Hyp G T r n c ce) {t x y : PySem.Expr} {p : Pos} (e : stepEv T r (cE (k + 1) ce (.IfExp t x y p)) ρ h = some (v, h')) : EvX G c ce.names (.IfExp t x y p) ρ h v h' := by
  intro g s S Vs E Q q
  unfold cE stepEv at e
  dsimp only at e
  unfold tst at e
  split at e
  · rename_i h1 e1
    refine IfExp_ (ts_ok H e1 g s S Vs _ rfl E _ fun b s₁ g₁ S₁ l₁ q₁ p₁ => ?_)
    subst p₁
    exact H.ev e g₁ s₁ S₁ (Vs.le l₁) E Q fun u s₂ g₂ S₂ l₂ q₂ p₂ => q _ _ _ S₂ (l₁.trans l₂) (q₁.trans q₂) p₂
  · rename_i h1 e1
    refine IfExp_ (ts_ok H e1 g s S Vs _ rfl E _ fun b s₁ g₁ S₁ l₁ q₁ p₁ => ?_)
    subst p₁
    exact H.ev e g₁ s₁ S₁ (Vs.le l₁) E Q fun u s₂ g₂ S₂ l₂ q₂ p₂ => q _ _ _ S₂ (l₁.trans l₂) (q₁.trans q₂) p₂
  · cases e

theorem bop_ok (H : Hyp G T r n c ce) {op : BoolOp} {p : Pos} : ∀ {xs : List PySem.Expr} {h h' : List O} {v : V}, bopV r (isAnd op) ρ (xs.map (cE k ce)) h = some (v, h') → EvX G c ce.names (.BoolOp op xs p) ρ h v h'
  | [], _, _, _, e => by cases e
  | [x], h, h', v, e => by
    intro g s S Vs E Q q
    exact BoolOp_one (H.ev (show r.ev (cE k ce x) ρ h = some (v, h') from e) g s S Vs E Q q)
  | x :: y :: xs, h, h', v, e => by
    intro g s S Vs E Q q
    rw [List.map_cons, List.map_cons] at e
    unfold bopV at e
    · split at e
      · rename_i v1 h1 e1
        split at e
        · rename_i b hb
          have pick : ∀ {p : Bool} {X Y : Option (V × List Mine.O)}, (if p = true then X else Y) = (match p with | true => X | false => Y) := fun {p} {X} {Y} => by cases p <;> rfl
          rw [pick] at e
          have rest : ∀ {g₁ : Gh} {s₁ : Shared}, Sim G c g₁ h1 s₁.heap → g.le g₁ → Same s s₁ → bopV r (isAnd op) ρ ((y :: xs).map (cE k ce)) h1 = some (v, h') → wpAny (model G.prog G.w) c.A (eval (.BoolOp op (y :: xs) p) c.env) Q E s₁ := fun S₁ l₁ q₁ e =>
            bop_ok H (p := p) e _ _ S₁ (Vs.le l₁) E Q fun u s₂ g₂ S₂ l₂ q₂ p₂ => q _ _ _ S₂ (l₁.trans l₂) (q₁.trans q₂) p₂
          cases op with
          | And =>
            refine BoolOp_and (H.ev e1 g s S Vs E _ fun u s₁ g₁ S₁ l₁ q₁ p₁ => ?_)
            have := truthy_ok hb p₁
            subst this
            refine wpAny_truthy_bool ?_
            cases b with
            | false => cases e; exact q _ _ _ S₁ l₁ q₁ p₁
            | true => exact rest S₁ l₁ q₁ e
          | Or =>
            refine BoolOp_or (H.ev e1 g s S Vs E _ fun u s₁ g₁ S₁ l₁ q₁ p₁ => ?_)
            have := truthy_ok hb p₁
            subst this
            refine wpAny_truthy_bool ?_
            cases b with
            | true => cases e; exact q _ _ _ S₁ l₁ q₁ p₁
            | false => exact rest S₁ l₁ q₁ e
        · cases e
      · cases e
theorem ev_bop (H : Hyp G T r n c ce) {op : BoolOp} {xs : List PySem.Expr} {p : Pos} (e : stepEv T r (cE (k + 1) ce (.BoolOp op xs p)) ρ h = some (v, h')) : EvX G c ce.names (.BoolOp op xs p) ρ h v h' := by
  unfold cE stepEv at e
  dsimp only at e
  exact bop_ok H e

theorem ev_subP (H : Hyp G T r n c ce) {x y : PySem.Expr} {p : Pos} (hs : notSlice y = true) (e : stepEv T r (.sub (cE k ce x) (cE k ce y)) ρ h = some (v, h')) : EvX G c ce.names (.Subscript x y p) ρ h v h' := by
  intro g s S Vs E Q q
  unfold stepEv at e
  dsimp only at e
  split at e
  · cases e
  · rename_i v1 h1 e1
    split at e
    · cases e
    · rename_i v2 h2 e2
      split at e
      · rename_i v3 e3
        cases e
        refine Subscript_ (H.ev e1 g s S Vs E _ fun a s₁ g₁ S₁ l₁ q₁ p₁ => H.ev e2 g₁ s₁ S₁ (Vs.le l₁) E _ fun b s₂ g₂ S₂ l₂ q₂ p₂ => ?_)
        exact sub_ok H.ok S₂ (VV.le l₂ p₁) p₂ e3 hs E Q fun u s₃ g₃ S₃ l₃ q₃ p₃ => q _ _ _ S₃ ((l₁.trans l₂).trans l₃) ((q₁.trans q₂).trans q₃) p₃
      · cases e

/-- a part of a slice -/
theorem part_ok (H : Hyp G T r n c ce) {x : Option PySem.Expr} {o : Option Nat} (e : optNat r (match x with | some e => some (cE k ce e) | none => none) ρ h = some (o, h')) :
    ∀ g s, Sim G c g h s.heap → Vars G c g ce.names ρ → Ev G c (evalPart x c.env) g s h' (fun _ u => IsPart u (o.map fun n => (n : Int))) := by
  intro g s S Vs E Q q
  cases x with
  | none =>
    cases e
    rw [evalPart_none]
    exact wpAny_pure (q _ _ _ S (.refl _) (.refl _) .none)
  | some x =>
    rw [evalPart_some]
    unfold optNat at e
    dsimp only at e
    split at e
    · rename_i v1 h1 e1
      split at e
      · rename_i n' hn
        cases e
        refine H.ev e1 g s S Vs E Q fun u s₁ g₁ S₁ l₁ q₁ p₁ => q _ _ _ S₁ l₁ q₁ ?_
        unfold natOf at hn
        split at hn
        · rename_i m
          split at hn
          · cases hn
            obtain ⟨t, rfl⟩ := rd_int (h := h) p₁ rfl
            exact .int _ _
          · cases hn
        · cases hn
      · cases e
    · cases e

theorem ev_slc (H : Hyp G T r n c ce) {x : PySem.Expr} {lo hi : Option PySem.Expr} {sp p : Pos} (e : stepEv T r (cE (k + 1) ce (.Subscript x (.Slice lo hi none sp) p)) ρ h = some (v, h')) : EvX G c ce.names (.Subscript x (.Slice lo hi none sp) p) ρ h v h' := by
  intro g s S Vs E Q q
  unfold cE stepEv at e
  dsimp only at e
  split at e
  · cases e
  · rename_i v1 h1 e1
    split at e
    · cases e
    · rename_i o1 h2 e2
      split at e
      · cases e
      · rename_i o2 h3 e3
        split at e
        · rename_i v4 e4
          cases e
          refine Subscript_ (H.ev e1 g s S Vs E _ fun a s₁ g₁ S₁ l₁ q₁ p₁ => ?_)
          refine wpAny_Slice (part_ok H e2 g₁ s₁ S₁ (Vs.le l₁) E _ fun b s₂ g₂ S₂ l₂ q₂ p₂ => part_ok H e3 g₂ s₂ S₂ (Vs.le (l₁.trans l₂)) E _ fun d s₃ g₃ S₃ l₃ q₃ p₃ => ?_)
          rw [evalPart_none]
          refine wpAny_pure ?_
          have pa := VV.le (l₂.trans l₃) p₁
          have l := (l₁.trans l₂).trans l₃
          have qq := (q₁.trans q₂).trans q₃
          have kk : ∀ v' s' g', Sim G c g' h' s'.heap → g₃.le g' → Same s₃ s' → VV G c g' v v' → Q v' s' := fun v' s' g' a b c d => q v' s' g' a (l.trans b) (qq.trans c) d
          have F1 := S₃.fr.push { cls := .type "slice", data := .fields #[b, d, .none] }
          unfold slcV at e4
          split at e4
          · rename_i xs kk' e5
            split at e4
            · rename_i hc
              cases e4
              simp only [Bool.and_eq_true] at hc
              obtain ⟨hs, hc1, hc2⟩ := hc
              have l1 := short_le hs
              have hc1 : 1 ≤ kk' := Nat.le_of_ble_eq_true hc1
              have hc2 : kk' ≤ xs.length := Nat.le_of_ble_eq_true hc2
              obtain ⟨a', us, rfl, t1, r1⟩ := rd_tuple H.ok S₃ pa e5
              obtain ⟨t, rfl⟩ : ∃ t, b = .int kk' t := by cases p₂; exact ⟨_, rfl⟩
              obtain rfl : d = .none := by cases p₃; rfl
              have ht' : IsTup (s₃.heap.push { cls := .type "slice", data := .fields #[.int kk' t, .none, .none] }) a' us.toArray := t1.keeps fun _ _ e => Heap.get?_push_of_some _ e
              refine tail_any (s := { s₃ with heap := s₃.heap.push { cls := .type "slice", data := .fields #[.int kk' t, .none, .none] } }) ht'.typeIs slot_tuple_getitem.lookup
                (getItem_tuple_from ht' (Heap.IsSliceOf.new ..) hc1 (by rw [List.size_toArray, r1.length]; exact hc2) ?_ (by rw [sizeLine_eq, List.size_toArray, r1.length]; omega)) rfl
              have N1 := News.push F1 (S₃.news.grown fun _ _ e => Heap.get?_push_of_some _ e) { cls := .type "tuple", data := .seq (us.toArray.toList.drop kk').toArray }
              have e0 : us.toArray.toList.drop kk' = us.drop kk' := by rw [List.toList_toArray]
              rw [e0] at N1 ⊢
              refine freeze_tuple (E := E) (us := us.drop kk') (xs := xs.drop kk') S₃ (F1.push _) N1 (fun p hp => Nat.lt_of_lt_of_le (S₃.lt p hp) (by rw [Heap.size_push]; exact Nat.le_succ _)) (r1.drop kk') kk rfl ⟨rfl, rfl⟩
            · cases e4
          · rename_i xs kk' e5
            split at e4
            · rename_i hs
              cases e4
              have l1 := short_le hs
              obtain ⟨a', us, rfl, t1, r1⟩ := rd_list H.ok S₃ pa e5
              obtain rfl : b = .none := by cases p₂; rfl
              obtain ⟨t, rfl⟩ : ∃ t, d = .int kk' t := by cases p₃; exact ⟨_, rfl⟩
              refine tail_any (s := { s₃ with heap := s₃.heap.push { cls := .type "slice", data := .fields #[.none, .int kk' t, .none] } }) (Heap.IsList.typeIs (s := { s₃ with heap := s₃.heap.push { cls := .type "slice", data := .fields #[.none, .int kk' t, .none] } }) (t1.push _)) slot_list_getitem.lookup
                (wpAny_getItem_list_slice (t1.push _) (Heap.IsSliceOf.new ..) .none (.int _ _) .none (by simp) ?_ (by rw [sizeLine_eq, List.size_toArray, r1.length]; omega)) rfl
              have N1 := News.push F1 (S₃.news.grown fun _ _ e => Heap.get?_push_of_some _ e) { cls := .type "list", data := .seq (slicePick us.toArray none (some (kk' : Int)) none) }
              have e0 : slicePick us.toArray none (some (kk' : Int)) none = (us.take kk').toArray := by
                have e : sliceBounds none (some (kk' : Int)) none us.toArray.size = (((0 : Nat) : Int), ((min kk' us.toArray.size : Nat) : Int), 1) := by
                  simp only [sliceBounds, Option.getD_none, show (1 : Int) > 0 by decide, if_true, if_neg (show ¬ ((kk' : Int) < 0) by omega)]
                  congr 1
                  congr 1
                  omega
                rw [kmk_pick_nat _ e]
                show ((us.drop 0).take (min kk' us.toArray.size - 0)).toArray = _
                rw [List.drop_zero, Nat.sub_zero, List.size_toArray, kmk_take_min]
              rw [e0] at N1 ⊢
              refine freeze_list (E := E) (us := us.take kk') (xs := xs.take kk') (n := 0) S₃ (F1.push _) N1 (fun p hp => Nat.lt_of_lt_of_le (S₃.lt p hp) (by rw [Heap.size_push]; exact Nat.le_succ _)) (r1.take kk') kk rfl ⟨rfl, rfl⟩
            · cases e4
          · cases e4
        · cases e

theorem baseOk_eq {o : PySem.Expr} {attr : Str} {env : Env} {whole : Sem Value} (h : baseOk o = true) : attributeBase o attr env whole = whole := by
  unfold attributeBase
  split
  · rename_i id p1 p2
    have : (id != "super") = true := by
      rw [bne_iff_ne]
      intro e
      rw [e] at h
      have h2 : strEq "super" "super" = true := (strEq_iff _ _).mpr rfl
      have h3 : (!strEq "super" "super") = true := h
      rw [h2] at h3
      cases h3
    simp only [this, Bool.true_or, if_true]

  · rfl
theorem ev_attr (H : Hyp G T r n c ce) {x : PySem.Expr} {a : Str} {p : Pos} (e : stepEv T r (cE (k + 1) ce (.Attribute x a p)) ρ h = some (v, h')) : EvX G c ce.names (.Attribute x a p) ρ h v h' := by
  intro g s S Vs E Q q
  unfold cE at e
  dsimp only at e
  split at e
  · rename_i hc
    have hc' := Bool.and_eq_true_iff.mp hc
    unfold stepEv at e
    dsimp only at e
    split at e
    · rename_i v1 h1 e1
      split at e
      · rename_i v2 e2
        cases e
        refine Attribute_any_ (H.ev e1 g s S Vs E _ fun u s₁ g₁ S₁ l₁ q₁ p₁ => ?_) (by rw [arm_eval_Attribute, baseOk_eq hc'.1])
        exact attr_ok H.ok H.CK hc'.2 S₁ p₁ e2 E Q fun u s₂ g₂ S₂ l₂ q₂ p₂ => q _ _ _ S₂ (l₁.trans l₂) (q₁.trans q₂) p₂
      · cases e
    · cases e
  · cases e
end Mine
end
section
open PySem PySem.W PyProof.Rows PySem.Calls PySem.SeqAt
set_option linter.unusedVariables false
namespace Mine
variable {G : Gl} {α β : Type} {c : Cx} {g : Gh} {s : Shared} {h h' h₁ h₂ : List O}
variable {T : Tab} {r : Rec} {n k : Nat} {ce : CE} {ρ : Rho} {v : V}

theorem evalArgs_any {M : Model} {A : Around} {E : Value → Shared → Prop} {f : Value} {args : List (Bool × Sem Value)} {Q : Args → Shared → Prop} (hp : args.any (·.1) = false)
    (h : wpAny M A (spliced args) (fun vs s' => Q ⟨vs, []⟩ s') E s) : wpAny M A (evalArgs f true args []) Q E s := by
  cases args with
  | nil => exact fun Γ p hΓ => evalArgs_nil3 (show Q ⟨[], []⟩ s from h Γ p hΓ) Γ p hΓ
  | cons a rest =>
    obtain ⟨b, x⟩ := a
    cases b with
    | true => simp at hp
    | false => exact evalArgs_plain h

/-- the callee's kind -/
def Callee (G : Gl) : Value → Prop
  | .ref a => keepIn G.K (.ref a) = true
  | .builtin _ => True
  | .type _ => True
  | _ => False

theorem callWith_ok (O : Ok G c) {f : Value} (hf : Callee G f) {first : List Value} {args : List PySem.Expr} {p : Pos} {vs : List V} {P : Gh → Value → Prop} (S : Sim G c g h s.heap) (Vs : Vars G c g ce.names ρ)
    (hp : args.all plainArg = true) (ra : EvXs G c ce.names ρ args h vs h₁)
    (k : ∀ us s₁ g₁, Sim G c g₁ h₁ s₁.heap → g.le g₁ → Same s s₁ → VVs G c g₁ vs us → Ev G c (call f (first ++ us)) g₁ s₁ h₂ P) :
    Ev G c (callWith p f first (backTo p (starEach args c.env)) []) g s h₂ P := fun E Q q => by
  have sp : wpAny (model G.prog G.w) c.A (spliced (backTo p (starEach args c.env))) (fun us s₁ => G.K.In s₁.heap ∧ wpAny (model G.prog G.w) c.A (call f (first ++ us)) Q E s₁) E s :=
    ev_spliced ra hp S Vs E _ fun us s₁ g₁ S₁ l₁ q₁ p₁ => ⟨O.K.keeps S₁.fr.keep, k us s₁ g₁ S₁ l₁ q₁ p₁ E Q fun v s₂ g₂ S₂ l₂ q₂ p₂ => q _ _ _ S₂ (l₁.trans l₂) (q₁.trans q₂) p₂⟩
  have sp' : wpAny (model G.prog G.w) c.A (spliced (backTo p (starEach args c.env))) (fun us s₁ => wpAny (model G.prog G.w) c.A (call f (first ++ us)) Q E s₁) E s := wpAny_mono sp (fun _ _ z => z.2) fun _ _ z => z
  have pl := starEach_plain (env := c.env) p hp
  cases f with
  | ref a => exact callWith_of (by rw [pl]; rfl) (keeps_K hf) (evalArgs_any pl sp)
  | builtin id => exact PySem.Calls.callWith_builtin pl (evalArgs_any pl sp')
  | type T => exact PySem.callWith_type pl (evalArgs_any pl sp')
  | _ => exact hf.elim

theorem wpAny_calls {M : Model} {A : Around} {E : Value → Shared → Prop} {f : Value} {us : List Value} {Q : Value → Shared → Prop}
    (h : ∀ R : Result → Shared → Prop, (∀ u s', Q u s' → R (.ok (.ret u)) s') → codeAny M A (.call f ⟨us, []⟩) R s) : wpAny M A (call f us) Q E s := wpAny_call (h _ fun _ _ q => q)

theorem call_ok (H : Hyp G T r n c ce) {f : Nat} {vs : List V} {us : List Value} (S : Sim G c g h s.heap) (rs : VVs G c g vs us) (e : r.call f vs h = some (v, h')) : Ev G c (call (.ref f) us) g s h' (fun g' u => VV G c g' v u) := fun E Q q =>
  wpAny_calls fun R hR => H.IH.call c H.ok H.Rn f vs h v h' e g s us S rs R fun u s' g' S' l' q' p' => hR _ _ (q _ _ _ S' l' q' p')

/-- what the table says of its functions -/
structure TabOk (G : Gl) (T : Tab) : Prop where
  fns : ∀ f fn, findN f T.funs = some fn → keepIn G.K (.ref f) = true
theorem ev_callF (H : Hyp G T r n c ce) {x : Str} {xp p : Pos} {args : List PySem.Expr} {f : Nat} (hr : reserved x = false) (hp : plainArgs args = true) (hg : isGl x ce.names = true) (hx : ce.gl x = some (.fn f))
    (e : stepEv T r (.callF f (args.map (cE k ce))) ρ h = some (v, h')) : EvX G c ce.names (.Call (.Name x xp) args [] p) ρ h v h' := by
  intro g s S Vs E Q q
  unfold stepEv at e
  dsimp only at e
  split at e
  · rename_i vs h1 e1
    have gx : GvOk G x (.fn f) := H.Ck.gl _ _ hx
    refine Call_ (ev_global (P := fun g' u => u = .ref f ∧ g' = g) H.ok S (H.Ck.glk _ hg) hr gx.1 ⟨rfl, rfl⟩ E _ fun u s₁ g₁ S₁ l₁ q₁ p₁ => ?_)
    obtain ⟨rfl, rfl⟩ := p₁
    exact callWith_ok H.ok (f := .ref f) gx.2 (first := []) S₁ Vs (plain_of hp).1 (evs_ok H e1) (fun us s₂ g₂ S₂ l₂ q₂ p₂ => call_ok H S₂ p₂ e) E Q fun u s₃ g₃ S₃ l₃ q₃ p₃ => q _ _ _ S₃ l₃ (q₁.trans q₃) p₃
  · cases e

theorem ev_callB (H : Hyp G T r n c ce) {x : Str} {xp p : Pos} {args : List PySem.Expr} {b : BI} {mu : Bool} (hr : reserved x = false) (hp : plainArgs args = true) (hg : isGl x ce.names = true) (hx : ce.gl x = some (.bi b))
    (e : stepEv T r (.callB mu b (args.map (cE k ce))) ρ h = some (v, h')) : EvX G c ce.names (.Call (.Name x xp) args [] p) ρ h v h' := by
  intro g s S Vs E Q q
  unfold stepEv at e
  dsimp only at e
  split at e
  · rename_i vs h1 e1
    have gx : GvOk G x (.bi b) := H.Ck.gl _ _ hx
    refine Call_ (ev_builtin (P := fun g' u => u = biVal b ∧ g' = g) H.ok S (H.Ck.glk _ hg) hr gx.1 gx.2.1 gx.2.2 ⟨rfl, rfl⟩ E _ fun u s₁ g₁ S₁ l₁ q₁ p₁ => ?_)
    obtain ⟨rfl, rfl⟩ := p₁
    exact callWith_ok H.ok (f := biVal b) (by cases b <;> trivial) (first := []) S₁ Vs (plain_of hp).1 (evs_ok H e1) (fun us s₂ g₂ S₂ l₂ q₂ p₂ => callB_ok H.ok H.hu S₂ p₂ e) E Q fun u s₃ g₃ S₃ l₃ q₃ p₃ => q _ _ _ S₃ l₃ (q₁.trans q₃) p₃
  · cases e

theorem Around.room_under {n : Nat} {A : Around} {C : Addr} {us : List Value} (h : Room (n + 1) A) : Room n (A.under (.builtin "type.__call__" ⟨.ref C :: us, []⟩)) := by
  refine ⟨?_, ?_⟩
  · show A.depth + 1 + 2 * n < _
    have := h.1; omega
  · have := h.2
    show A.units + (Code.builtin "type.__call__" ⟨.ref C :: us, []⟩).cUnits + 20 * n + 200 < _
    have : (Code.builtin "type.__call__" ⟨.ref C :: us, []⟩).cUnits ≤ 20 := by
      show 1 + 3 * 0 ≤ 20
      decide
    omega

theorem ev_callC (H : Hyp G T r n c ce) {x : Str} {xp p : Pos} {args : List PySem.Expr} {C : Nat} (hr : reserved x = false) (hp : plainArgs args = true) (hg : isGl x ce.names = true) (hx : ce.gl x = some (.cls C))
    (e : stepEv T r (.callC C (args.map (cE k ce))) ρ h = some (v, h')) : EvX G c ce.names (.Call (.Name x xp) args [] p) ρ h v h' := by
  intro g s S Vs E Q q
  unfold stepEv at e
  dsimp only at e
  split at e
  · cases e
  rename_i vs h1 e1
  split at e
  · cases e
  rename_i cl hcl
  split at e
  · rename_i h2 e2
    cases e
    have gx : GvOk G x (.cls C) := H.Ck.gl _ _ hx
    have K := H.CK C gx.2
    obtain ⟨k1, k2, k3⟩ := K.ms cl hcl
    refine Call_ (ev_global (P := fun g' u => u = .ref C ∧ g' = g) H.ok S (H.Ck.glk _ hg) hr gx.1 ⟨rfl, rfl⟩ E _ fun u s₁ g₁ S₁ l₁ q₁ p₁ => ?_)
    obtain ⟨rfl, rfl⟩ := p₁
    refine callWith_ok (h₂ := h') H.ok (f := .ref C) K.kp (first := []) S₁ Vs (plain_of hp).1 (evs_ok H e1) (fun us s₂ g₂ S₂ l₂ q₂ p₂ => fun E Q q => ?_) E Q fun u s₃ g₃ S₃ l₃ q₃ p₃ => q _ _ _ S₃ l₃ (q₁.trans q₃) p₃
    refine call_cls S₂.fr H.ok.K S₂.news K.mkC k1 k2 fun xa dx Hh F' N' hlt hxd => ?_
    have nd : (([(xa, instObj C dx), (dx, dictOf [] 0)] ++ ledOf c g₂).map (·.1)).Nodup := by
      simp only [List.cons_append, List.nil_append, List.map_cons, List.nodup_cons, List.mem_cons, List.mem_map, not_or, not_exists, not_and]
      refine ⟨⟨fun e => ?_, fun p hp e => ?_⟩, fun p hp e => ?_, S₂.nd⟩
      · exact absurd hxd (by rw [e]; exact Nat.lt_irrefl _)
      · exact absurd (Nat.lt_trans (hlt p hp) hxd) (by rw [e]; exact Nat.lt_irrefl _)
      · exact absurd (hlt p hp) (by rw [e]; exact Nat.lt_irrefl _)
    have S₃ : Sim G c ⟨g₂.as ++ [xa], g₂.Z, g₂.mu ++ [[(xa, instObj C dx), (dx, dictOf [] 0)]]⟩ (h1 ++ [.attrs C []]) ({ s₂ with heap := Hh } : Shared).heap := S₂.push F' N' nd (.attrs gx.2 .nil)
    have l₃ := Gh.le_push g₂ xa [(xa, instObj C dx), (dx, dictOf [] 0)]
    have hloc : VV G c ⟨g₂.as ++ [xa], g₂.Z, g₂.mu ++ [[(xa, instObj C dx), (dx, dictOf [] 0)]]⟩ (.loc h1.length) (.ref xa) := .loc (by rw [← S₂.la]; simp)
    let c' : Cx := { c with A := c.A.under (.builtin "type.__call__" ⟨.ref C :: us, []⟩) }
    have O' : Ok G c' := ⟨H.ok.Kb, H.ok.stay, H.ok.K, H.ok.T, H.ok.below, H.ok.frames, H.ok.ff, H.ok.fk, H.ok.hh, H.ok.ek, H.ok.eg, H.ok.eb, H.ok.cells⟩
    have ss : ∀ {g h H}, Sim G c' g h H → Sim G c g h H := fun S => ⟨S.fr, S.news, S.nd, S.la, S.lm, S.objs⟩
    have ss' : ∀ {g h H}, Sim G c g h H → Sim G c' g h H := fun S => ⟨S.fr, S.news, S.nd, S.la, S.lm, S.objs⟩
    refine H.IH.call c' O' (Around.room_under H.Rm) cl.init _ _ _ _ e2 _ { s₂ with heap := Hh } (.ref xa :: us) (ss' S₃) (.cons hloc (VVs.le l₃ p₂)) _ fun u s' g' S' l' q' p' => ?_
    exact ⟨none_is p', q _ _ _ (ss S') (l₃.trans l') ⟨q'.os, q'.gens⟩ (VV.le l' hloc)⟩
  · cases e

theorem meth_eq {o : PySem.Expr} {name : Str} {apos pos : Pos} {args : List PySem.Expr} {env : Env} (hb : baseOk o = true) (hp : plainArgs args = true) (hl : apos.endLine = pos.line) : ∃ pl,
    eval (.Call (.Attribute o name apos) args [] pos) env = (do
      let ov ← eval o env
      standAt apos.atName
      let (f, first) ← holding [ov] (getMethod ov name pl)
      callWith pos f first (backTo pos (starEach args env)) []) := by
  have hp' := plain_of hp
  refine ⟨(do return (← importBound o env).getD true), ?_⟩
  show (do
    let ov ← attributeBase o name env (eval o env)
    standAt apos.atName
    methodCall o name apos pos env ov (args.length + 0) (backTo pos (starEach args env)) []) = _
  rw [baseOk_eq hb]
  have hf : methodCallForm (args.length + 0) (backTo pos (starEach args env)) [] = true := by
    have pl := starEach_plain (env := env) pos hp'.1
    unfold methodCallForm
    simp only [List.isEmpty_nil, if_true, List.all_nil, Bool.and_true, Bool.and_eq_true, decide_eq_true_eq, Nat.add_zero]
    refine ⟨?_, by omega⟩
    rw [List.all_eq_true]
    intro x hx
    have := (List.any_eq_false.mp pl) x hx
    simpa using this
  congr 1
  funext ov
  congr 1
  funext _
  unfold methodCall
  rw [hf]
  unfold calleeOf methodCallPos
  simp only [if_true, Bool.not_true, Bool.false_or, hl, beq_self_eq_true, pure_bind]

theorem ev_methI (H : Hyp G T r n c ce) {o : PySem.Expr} {name : Str} {ap p : Pos} {args : List PySem.Expr} (hb : baseOk o = true) (hp : plainArgs args = true) (hl : ap.endLine = p.line)
    (e : stepEv T r (.methI name (cE k ce o) (args.map (cE k ce))) ρ h = some (v, h')) : EvX G c ce.names (.Call (.Attribute o name ap) args [] p) ρ h v h' := by
  intro g s S Vs E Q q
  unfold stepEv at e
  dsimp only at e
  split at e
  · rename_i m h1 e1
    split at e
    · rename_i C l hm
      split at e
      · cases e
      rename_i hnone
      have hnone' : findS name l = none := by
        cases z : findS name l
        · rfl
        · rw [z] at hnone; exact absurd rfl hnone
      split at e
      · cases e
      rename_i vs h2 e2
      split at e
      · cases e
      rename_i cl hcl
      split at e
      · cases e
      rename_i f hf
      obtain ⟨pl, he⟩ := meth_eq (env := c.env) (name := name) hb hp hl
      refine MethodCall_ (pl := pl) (H.ev e1 g s S Vs E _ fun u s₁ g₁ S₁ l₁ q₁ p₁ => ?_) he
      refine method_ok H.ok H.CK S₁ hm p₁ hnone' hcl hf E _ fun fx s₂ g₂ S₂ l₂ q₂ p₂ => ?_
      obtain ⟨rfl, rfl⟩ := p₂
      obtain ⟨xa, dx, es, nn, rfl, hcg, I, _, _, _⟩ := instOf S₁ hm p₁
      have K := H.CK C hcg
      have kp := ((K.ms cl hcl).2.2 name f hf).2.2
      exact callWith_ok H.ok (f := .ref f) kp (first := [.ref xa]) S₂ (Vs.le l₁) (plain_of hp).1 (evs_ok H e2) (fun us s₃ g₃ S₃ l₃ q₃ p₃ => call_ok H S₃ (.cons (VV.le l₃ p₁) p₃) e) E Q fun u s₄ g₄ S₄ l₄ q₄ p₄ => q _ _ _ S₄ (l₁.trans l₄) ((q₁.trans q₂).trans q₄) p₄
    · cases e
  · cases e

theorem mbOf_name {x : Str} {m : MB} (e : mbOf x = some m) : x = mbName m := by
  unfold mbOf at e
  split at e
  · rename_i q; cases e; exact (strEq_iff _ _).mp q
  · split at e
    · rename_i q; cases e; exact (strEq_iff _ _).mp q
    · split at e
      · rename_i q; cases e; exact (strEq_iff _ _).mp q
      · cases e
theorem sameKind_of {a b : Option Bool} (e : sameKind a b = true) : ∃ x, a = some x ∧ b = some x := by
  unfold sameKind at e
  split at e
  · rename_i x y; rw [beq_iff_eq] at e; subst e; exact ⟨_, rfl, rfl⟩
  · cases e
theorem ev_methB (H : Hyp G T r n c ce) {o : PySem.Expr} {name : Str} {m : MB} {ap p : Pos} {args : List PySem.Expr} (hb : baseOk o = true) (hp : plainArgs args = true) (hl : ap.endLine = p.line) (hm : mbOf name = some m)
    (e : stepEv T r (.methB m (cE k ce o) (args.map (cE k ce))) ρ h = some (v, h')) : EvX G c ce.names (.Call (.Attribute o name ap) args [] p) ρ h v h' := by
  intro g s S Vs E Q q
  have := mbOf_name hm; subst this
  unfold stepEv at e
  dsimp only at e
  split at e
  · cases e
  rename_i x h1 e1
  split at e
  · cases e
  rename_i vs h2 e2
  split at e
  · rename_i hs
    obtain ⟨kd, k1, k2⟩ := sameKind_of hs
    have hid : ∃ id, mbId m kd = some id := by
      unfold methB at e
      unfold mkind at k2
      split at e
      · rename_i i
        dsimp only at k2
        split at e
        · rename_i hz; rw [hz] at k2; cases k2; exact ⟨_, rfl⟩
        · rename_i hz; rw [hz] at k2; cases k2; exact ⟨_, rfl⟩
        · rename_i hz; rw [hz] at k2; cases k2; exact ⟨_, rfl⟩
        · rename_i hz; rw [hz] at k2; cases k2; exact ⟨_, rfl⟩
        · cases e
      · cases e
    obtain ⟨id, hid⟩ := hid
    obtain ⟨pl, he⟩ := meth_eq (env := c.env) (name := mbName m) hb hp hl
    refine MethodCall_ (pl := pl) (H.ev e1 g s S Vs E _ fun u s₁ g₁ S₁ l₁ q₁ p₁ => ?_) he
    refine getMethod_ok H.ok S₁ p₁ k1 hid E _ fun fx s₂ g₂ S₂ l₂ q₂ p₂ => ?_
    obtain ⟨rfl, rfl⟩ := p₂
    refine callWith_ok H.ok (f := .builtin id) trivial (first := [u]) S₂ (Vs.le l₁) (plain_of hp).1 (evs_ok H e2) (fun us s₃ g₃ S₃ l₃ q₃ p₃ => ?_) E Q fun u s₄ g₄ S₄ l₄ q₄ p₄ => q _ _ _ S₄ (l₁.trans l₄) ((q₁.trans q₂).trans q₄) p₄
    obtain ⟨id', h1', h2'⟩ := methB_ok H.ok S₃ (VV.le l₃ p₁) p₃ e k2
    rw [hid] at h1'; cases h1'
    exact h2'
  · cases e
end Mine
end
section
open PySem PySem.W PyProof.Rows PySem.Calls PySem.SeqAt
set_option linter.unusedVariables false
namespace Mine
variable {G : Gl} {α β : Type} {c : Cx} {g : Gh} {s : Shared} {h h' h₁ h₂ : List O}
variable {T : Tab} {r : Rec} {n k : Nat} {ce : CE} {ρ : Rho} {v : V}

/-! a private thing in the ledger -/
def Cx.with (c : Cx) (p : Addr × Obj) : Cx := { c with pri := p :: c.pri }
theorem Sim.priv {H : Heap} {D : Addr} {o : Obj} (S : Sim G c g h s.heap) (F : Fr c.h₀ c.L H c.m) (N : News c.h₀ c.L H ((D, o) :: ledOf c g)) (hD : ∀ p ∈ ledOf c g, p.1 ≠ D) : Sim G (c.with (D, o)) g h H where
  fr := F
  news := fun p hp => N p (by
    unfold ledOf Cx.with at hp
    unfold ledOf
    simp only [List.mem_append, List.mem_cons, List.cons_append] at hp ⊢
    grind)
  nd := by
    have : (ledOf (c.with (D, o)) g).Perm ((D, o) :: ledOf c g) := by
      unfold ledOf Cx.with
      exact List.perm_middle
    refine (this.map (·.1)).nodup_iff.mpr ?_
    rw [List.map_cons, List.nodup_cons]
    exact ⟨fun q => by obtain ⟨p, hp, e⟩ := List.mem_map.mp q; exact hD p hp e, S.nd⟩
  la := S.la
  lm := S.lm
  objs := S.objs
theorem Sim.unpriv {H : Heap} {D : Addr} {o : Obj} (S : Sim G (c.with (D, o)) g h H) : Sim G c g h H ∧ News c.h₀ c.L H ((D, o) :: ledOf c g) ∧ ∀ p ∈ ledOf c g, p.1 ≠ D := by
  have pm : (ledOf (c.with (D, o)) g).Perm ((D, o) :: ledOf c g) := by
    unfold ledOf Cx.with
    exact List.perm_middle
  have N : News c.h₀ c.L H ((D, o) :: ledOf c g) := fun p hp => S.news p (pm.mem_iff.mpr hp)
  have nd := (pm.map (·.1)).nodup_iff.mp S.nd
  rw [List.map_cons, List.nodup_cons] at nd
  refine ⟨⟨S.fr, fun p hp => N p (.tail _ hp), nd.2, S.la, S.lm, S.objs⟩, N, fun p hp e => nd.1 ?_⟩
  exact List.mem_map.mpr ⟨p, hp, e⟩
theorem Ok.with (O : Ok G c) (p : Addr × Obj) : Ok G (c.with p) := ⟨O.Kb, O.stay, O.K, O.T, O.below, O.frames, O.ff, O.fk, O.hh, O.ek, O.eg, O.eb, O.cells⟩
theorem CeOk.with (C : CeOk G ce c) (p : Addr × Obj) : CeOk G ce (c.with p) := ⟨C.gl, C.glk, C.look, C.nd, C.loc, C.cell⟩
theorem Hyp.with (H : Hyp G T r n c ce) (p : Addr × Obj) : Hyp G T r n (c.with p) ce := ⟨H.IH, H.ok.with p, H.Rm, H.Ck.with p, H.CK⟩
theorem Var.with {x : Str} {u : Value} {p : Addr × Obj} (h : Var c x u) : Var (c.with p) x u := by
  rcases h with h | ⟨h1, o, m', h2, h3⟩ | h
  · exact .inl h
  · exact .inr (.inl ⟨h1, o, m', .tail _ h2, h3⟩)
  · exact .inr (.inr h)
theorem Vars.with {names : List (Str × NameKind)} {p : Addr × Obj} (h : Vars G c g names ρ) : Vars G (c.with p) g names ρ := fun i x k v a b d => let ⟨u, e, f⟩ := h i x k v a b d; ⟨u, e.with, f⟩

theorem Sim.freezeN {H : Heap} {D : Addr} {o : Obj} (S : Sim G c g h s.heap) (F : Fr c.h₀ c.L H c.m) (N : News c.h₀ c.L H ((D, o) :: ledOf c g)) (hD : ∀ p ∈ ledOf c g, p.1 ≠ D) :
    Sim G c ⟨g.as, (D, o) :: g.Z, g.mu⟩ h H where
  fr := F
  news := fun p hp => N p (by
    unfold ledOf at hp ⊢
    simp only [List.mem_append, List.mem_cons] at hp ⊢
    grind)
  nd := by
    have : (ledOf c ⟨g.as, (D, o) :: g.Z, g.mu⟩).Perm ((D, o) :: ledOf c g) := by
      unfold ledOf
      simp only [← List.append_assoc]
      exact List.perm_middle
    refine (this.map (·.1)).nodup_iff.mpr ?_
    rw [List.map_cons, List.nodup_cons]
    exact ⟨fun q => by obtain ⟨p, hp, e⟩ := List.mem_map.mp q; exact hD p hp e, S.nd⟩
  la := S.la
  lm := S.lm
  objs := fun i o' a b h1 h2 h3 => (S.objs i o' a b h1 h2 h3).mono (Kn.mono fun _ q => .tail _ q) (List.prefix_refl _)
theorem Sim.pushN {H : Heap} {D : Addr} {ob : Obj} {o : O} (S : Sim G c g h s.heap) (F : Fr c.h₀ c.L H c.m) (N : News c.h₀ c.L H ((D, ob) :: ledOf c g)) (hD : ∀ p ∈ ledOf c g, p.1 ≠ D)
    (r : OR (prog := G.prog) (w := G.w) G.cg (kn c g) (g.as ++ [D]) o D [(D, ob)]) : Sim G c ⟨g.as ++ [D], g.Z, g.mu ++ [[(D, ob)]]⟩ (h ++ [o]) H :=
  S.push (b := [(D, ob)]) F N (by
    rw [List.cons_append, List.nil_append, List.map_cons, List.nodup_cons]
    exact ⟨fun z => by obtain ⟨p, hp, e⟩ := List.mem_map.mp z; exact hD p hp e, S.nd⟩) r

/-! key and value, key and value .. -/
def keyE (k : Nat) (ce : CE) : Option PySem.Expr → E := fun x => match x with | some x => cE k ce x | none => .fail
def Rel2 (G : Gl) (c : Cx) (g : Gh) : List V → List V → List (Value × Value) → Prop
  | [], [], [] => True
  | a :: as, b :: bs, (u, w) :: ps => VV G c g a u ∧ VV G c g b w ∧ Rel2 G c g as bs ps
  | _, _, _ => False
theorem Rel2.le {g g' : Gh} (l : g.le g') : ∀ {as bs ps}, Rel2 G c g as bs ps → Rel2 G c g' as bs ps
  | [], [], [], _ => trivial
  | _ :: _, _ :: _, (_, _) :: _, h => ⟨VV.le l h.1, VV.le l h.2.1, Rel2.le l h.2.2⟩
theorem pairs_ok (H : Hyp G T r n c ce) {pos : Pos} : ∀ {keys : List (Option PySem.Expr)} {values : List PySem.Expr} {h h' : List O} {a b : List V}, evp r ρ (keys.map (keyE k ce)) (values.map (cE k ce)) h = some (a, b, h') →
    (keys.all (·.isSome) = true ∧ keys.length = values.length) ∧ ∀ g s, Sim G c g h s.heap → Vars G c g ce.names ρ → Ev G c (evalPairs (pairTrees keys values c.env pos)) g s h' (fun g' ps => Rel2 G c g' a b ps)
  | [], [], _, _, _, _, e => by
    cases e
    exact ⟨⟨rfl, rfl⟩, fun g s S Vs => Ev.pure S trivial⟩
  | [], _ :: _, _, _, _, _, e => by cases e
  | _ :: _, [], _, _, _, _, e => by cases e
  | none :: ks, v :: vs, h, h', a, b, e => by
    rw [List.map_cons, List.map_cons] at e
    unfold evp at e
    rw [show r.ev (keyE k ce none) ρ h = none from H.IH.fail _ _] at e
    cases e
  | some x :: ks, y :: ys, h, h', a, b, e => by
    rw [List.map_cons, List.map_cons] at e
    unfold evp at e
    split at e
    · cases e
    rename_i u h1 e1
    split at e
    · cases e
    rename_i w h2 e2
    split at e
    · rename_i a' b' h3 e3
      cases e
      obtain ⟨⟨h4, h5⟩, h6⟩ := pairs_ok H (pos := pos) e3
      refine ⟨⟨by simpa using h4, by simpa using h5⟩, fun g s S Vs E Q q => ?_⟩
      show wpAny _ _ (evalPairs ((eval x c.env, do let x ← eval y c.env; standAt pos; pure x) :: pairTrees ks ys c.env pos)) _ _ _
      unfold evalPairs
      refine wpAny_bind (H.ev (x := x) e1 g s S Vs E _ fun u s₁ g₁ S₁ l₁ q₁ p₁ => wpAny_bind (wpAny_holding (wpAny_bind (H.ev e2 g₁ s₁ S₁ (Vs.le l₁) E _ fun w s₂ g₂ S₂ l₂ q₂ p₂ => ?_))))
      refine wpAny_bind (wpAny_standAt (wpAny_pure (wpAny_bind (wpAny_holding ?_))))
      refine h6 g₂ s₂ S₂ (Vs.le (l₁.trans l₂)) E _ fun ps s₃ g₃ S₃ l₃ q₃ p₃ => wpAny_pure ?_
      exact q _ _ _ S₃ ((l₁.trans l₂).trans l₃) ((q₁.trans q₂).trans q₃) ⟨VV.le (l₂.trans l₃) p₁, VV.le l₃ p₂, p₃⟩
    · cases e

theorem nodup_stored {K : Type} [DecidableEq K] {kvs : List (K × Value)} {k : K} {v : Value} (nd : (kvs.map (·.1)).Nodup) : ((stored kvs k v).map (·.1)).Nodup := by
  unfold stored
  split
  · rw [keys_map_store]; exact nd
  · rename_i hn
    rw [List.map_append, List.nodup_append]
    refine ⟨nd, by simp, ?_⟩
    intro a ha b hb
    simp only [List.map_cons, List.map_nil, List.mem_singleton] at hb
    subst hb
    intro e
    subst e
    apply hn
    obtain ⟨kv, h1, h2⟩ := List.mem_map.mp ha
    rw [List.any_eq_true]
    exact ⟨kv, h1, by simpa using h2⟩
theorem PD.putS {P : PyData → Value → Prop} {k : Str} {x : PyData} {v : Value} (q : P x v) : ∀ {m : List (Str × PyData)} {kvs : List (Str × Value)}, PD P m kvs → (kvs.map (·.1)).Nodup → PD P (putS k x m) (stored kvs k v)
  | _, _, .nil, _ => .cons q .nil
  | (j, y) :: m, (_, u) :: kvs, .cons a b, nd => by
    rw [stored_cons nd]
    unfold Mine.putS
    cases e : strEq k j with
    | true => rw [if_pos ((strEq_iff _ _).mp e).symm]; simp only [if_true]; rw [← (strEq_iff _ _).mp e]; exact .cons q b
    | false =>
      have hne : ¬ j = k := fun z => by rw [(strEq_iff k j).mpr z.symm] at e; cases e
      rw [if_neg hne]
      rw [List.map_cons, List.nodup_cons] at nd
      exact .cons a (PD.putS q b nd.2)
theorem dspI_ok : ∀ {ks vs : List V} {ps : List (Value × Value)} {m₀ m : List (Int × PyData)} {kv₀ : List (Int × Value)}, dspI ks vs m₀ = some m → Rel2 G c g ks vs ps → PD (RD (kn c g)) m₀ kv₀ → (kv₀.map (·.1)).Nodup →
    ∃ kvs, Carries (intKind G.prog G.w) ps kvs ∧ PD (RD (kn c g)) m (merged kv₀ kvs)
  | [], [], [], m₀, m, kv₀, e, _, q, nd => by cases e; exact ⟨[], trivial, q⟩
  | [], [], _ :: _, _, _, _, _, z, _, _ => z.elim
  | [], _ :: _, _, _, _, _, e, _, _, _ => by cases e
  | x :: ks, vs, ps, m₀, m, kv₀, e, z, q, nd => by
    unfold dspI at e
    split at e
    · rename_i h1; cases h1
    · rename_i i ks' y vs' h1
      cases h1
      match ps, z with
      | (u, w) :: ps, ⟨z1, z2, z3⟩ =>
        obtain ⟨t, rfl⟩ := rd_int (h := []) z1 rfl
        obtain ⟨kvs, h2, h3⟩ := dspI_ok e z3 (q.put (rd_d z2 rfl) nd) (nodup_stored nd)
        exact ⟨(i, w) :: kvs, ⟨int_is _ _, rfl, h2⟩, h3⟩
    · cases e
theorem dspS_ok : ∀ {ks vs : List V} {ps : List (Value × Value)} {m₀ m : List (Str × PyData)} {kv₀ : List (Str × Value)}, dspS ks vs m₀ = some m → Rel2 G c g ks vs ps → PD (RD (kn c g)) m₀ kv₀ → (kv₀.map (·.1)).Nodup →
    ∃ kvs, Carries (PySem.strKind G.prog G.w) ps kvs ∧ PD (RD (kn c g)) m (merged kv₀ kvs)
  | [], [], [], m₀, m, kv₀, e, _, q, nd => by cases e; exact ⟨[], trivial, q⟩
  | [], [], _ :: _, _, _, _, _, z, _, _ => z.elim
  | [], _ :: _, _, _, _, _, e, _, _, _ => by cases e
  | x :: ks, vs, ps, m₀, m, kv₀, e, z, q, nd => by
    unfold dspS at e
    split at e
    · rename_i h1; cases h1
    · rename_i i ks' y vs' h1
      cases h1
      match ps, z with
      | (u, w) :: ps, ⟨z1, z2, z3⟩ =>
        cases z1 with
        | d z1 =>
          cases z1
          obtain ⟨kvs, h2, h3⟩ := dspS_ok e z3 (q.putS (rd_d z2 rfl) nd) (nodup_stored nd)
          exact ⟨(i, w) :: kvs, ⟨str_is _ _, rfl, h2⟩, h3⟩
    · cases e
theorem dspII_ok : ∀ {ks vs : List V} {ps : List (Value × Value)} {m₀ m : List (Int × List (Int × PyData))} {kv₀ : List (Int × Value)}, dspII ks vs m₀ = some m → Rel2 G c g ks vs ps → PDD (prog := G.prog) (w := G.w) (kn c g) m₀ kv₀ → (kv₀.map (·.1)).Nodup →
    ∃ kvs, Carries (intKind G.prog G.w) ps kvs ∧ PDD (prog := G.prog) (w := G.w) (kn c g) m (merged kv₀ kvs)
  | [], [], [], m₀, m, kv₀, e, _, q, nd => by cases e; exact ⟨[], trivial, q⟩
  | [], [], _ :: _, _, _, _, _, z, _, _ => z.elim
  | [], _ :: _, _, _, _, _, e, _, _, _ => by cases e
  | x :: ks, vs, ps, m₀, m, kv₀, e, z, q, nd => by
    unfold dspII at e
    split at e
    · rename_i h1; cases h1
    · rename_i i ks' y vs' h1
      cases h1
      match ps, z with
      | (u, w) :: ps, ⟨z1, z2, z3⟩ =>
        obtain ⟨t, rfl⟩ := rd_int (h := []) z1 rfl
        have z2' : VR G.prog G.w (kn c g) [] (.idict y) w := by cases z2 with | idict k1 k2 k3 k4 => exact .idict k1 k2 k3 k4
        obtain ⟨kvs, h2, h3⟩ := dspII_ok e z3 (q.put z2' nd) (nodup_stored nd)
        exact ⟨(i, w) :: kvs, ⟨int_is _ _, rfl, h2⟩, h3⟩
    · cases e
end Mine
end
section
open PySem PySem.W PyProof.Rows PySem.Calls PySem.SeqAt
set_option linter.unusedVariables false
namespace Mine
variable {G : Gl} {α β : Type} {c : Cx} {g : Gh} {s : Shared} {h h' h₁ h₂ : List O}
variable {T : Tab} {r : Rec} {n k : Nat} {ce : CE} {ρ : Rho} {v : V}

theorem emptyInt (H : Heap) : ∃ o, (H.push { cls := .type "dict", data := .dict #[] }).get? H.objs.size = some o ∧ o.IsDictOf (intKind G.prog G.w) [] := Heap.dictOf_iff.mp (Heap.DictOf.new (knd := intKind G.prog G.w) H)
theorem emptyIs {o : Obj} (h : o = ({ cls := .type "dict", data := .dict #[] } : Obj)) {K : Type} [DecidableEq K] (knd : PySem.KeyKind G.prog G.w K) : o.IsDictOf knd [] := by
  subst h
  exact ⟨#[], 0, ⟨rfl, rfl, rfl⟩, rfl, fun _ he => by simp at he, Pairs.nil, List.nodup_nil⟩

theorem Rel2.of_with {p : Addr × Obj} : ∀ {as bs ps}, Rel2 G (c.with p) g as bs ps → Rel2 G c g as bs ps
  | [], [], [], _ => trivial
  | _ :: _, _ :: _, (_, _) :: _, h => ⟨h.1, h.2.1, Rel2.of_with h.2.2⟩
theorem ev_dsp (H : Hyp G T r n c ce) {keys : List (Option PySem.Expr)} {values : List PySem.Expr} {p : Pos} (e : stepEv T r (cE (k + 1) ce (.Dict keys values p)) ρ h = some (v, h')) : EvX G c ce.names (.Dict keys values p) ρ h v h' := by
  intro g s S Vs E Q q
  unfold cE at e
  dsimp only at e
  split at e
  case isFalse => cases e
  rename_i hc
  have hc' := Bool.and_eq_true_iff.mp hc
  have hlen : keys.length ≤ 15 := Nat.le_of_ble_eq_true hc'.2
  unfold stepEv at e
  dsimp only at e
  split at e
  case h_2 => cases e
  rename_i a b h1 e1
  have lo := lo_new H.ok S
  have hap : ∀ p ∈ ledOf c g, p.1 ≠ s.heap.objs.size := fun p hp => Nat.ne_of_lt (S.lt p hp)
  have F1 := S.fr.push { cls := .type "dict", data := .dict #[] }
  have N1 := S.news.push S.fr { cls := .type "dict", data := .dict #[] }
  by_cases hk : keys = []
  · subst hk
    cases values with
    | cons _ _ => cases e1
    | nil =>
      cases e1
      refine wpAny_Dict_empty ?_
      unfold mkDict at e
      split at e
      · split at e
        · rename_i hh; cases hh
        · cases e
          exact q _ _ _ (S.push1 (D := s.heap.objs.size) F1 N1 S.lt (.idict lo (emptyIs rfl _) .nil)) (Gh.le_push _ _ _) ⟨rfl, rfl⟩ (.loc (by rw [← S.la]; simp))
      · split at e
        · rename_i hh; cases hh
        · cases e
          exact q _ _ _ (S.freeze F1 N1 S.lt) (Gh.le_freeze _ _) ⟨rfl, rfl⟩ (.idict (.inr (.head _)) lo (emptyIs rfl _) .nil)
  · have e1' : evp r ρ (keys.map (keyE k ce)) (values.map (cE k ce)) h = some (a, b, h1) := e1
    let D := s.heap.objs.size
    obtain ⟨⟨h2, h3⟩, h4⟩ := pairs_ok (H.with (D, { cls := .type "dict", data := .dict #[] })) (pos := p) e1'
    have S1 : Sim G (c.with (D, { cls := .type "dict", data := .dict #[] })) g h (s.heap.push { cls := .type "dict", data := .dict #[] }) := S.priv F1 N1 hap
    -- what is made of the pairs
    have fin : ∀ {K : Type} [DecidableEq K] (knd : PySem.KeyKind G.prog G.w K), (∀ ps s₁ g₁, Sim G (c.with (D, { cls := .type "dict", data := .dict #[] })) g₁ h1 s₁.heap → g.le g₁ → Same s s₁ → Rel2 G c g₁ a b ps →
        ∃ kvs, Carries knd ps kvs ∧ ∀ H' o', Fr c.h₀ c.L H' c.m → News c.h₀ c.L H' ((D, o') :: ledOf c g₁) → (∀ p ∈ ledOf c g₁, p.1 ≠ D) → Sim G c g₁ h1 s₁.heap → o'.IsDictOf knd (merged [] kvs) → Q (.ref D) { s₁ with heap := H', toks := s₁.toks + ps.length }) →
        wpAny (model G.prog G.w) c.A (eval (.Dict keys values p) c.env) Q E s := by
      intro K _ knd kk
      refine wpAny_Dict_walk (knd := knd) h2 h3 hk hlen ?_
      refine h4 g { s with heap := s.heap.push { cls := .type "dict", data := .dict #[] } } S1 Vs.with E _ fun ps s₁ g₁ S₁ l₁ q₁ p₁ => ?_
      have p₁' : Rel2 G c g₁ a b ps := Rel2.of_with p₁
      obtain ⟨kvs, k1, k2⟩ := kk ps s₁ g₁ S₁ l₁ ⟨q₁.os, q₁.gens⟩ p₁'
      obtain ⟨S₂, N₂, ap⟩ := S₁.unpriv
      refine ⟨kvs, k1, Heap.dictOf_iff.mpr ⟨_, (N₂ _ (.head _)).1, emptyIs rfl knd⟩, fun H' hd hs => ?_⟩
      obtain ⟨o', ho', hd'⟩ := Heap.dictOf_iff.mp hd
      have N0 := N₂ _ (.head _)
      exact k2 H' o' (S₂.fr.change hs N0.2.1 N0.2.2) (N₂.setHead ap hs ho') ap S₂ hd'
    unfold mkDict at e
    split at e
    · split at e
      · rename_i m hm
        split at e
        · rename_i mm hd
          cases e
          refine fin (intKind G.prog G.w) fun ps s₁ g₁ S₁ l₁ q₁ p₁ => ?_
          obtain ⟨kvs, k1, k2⟩ := dspII_ok hd p₁ .nil List.nodup_nil
          refine ⟨kvs, k1, fun H' o' F' N' ap S₂ hd' => ?_⟩
          exact q _ _ _ (S₂.pushN (D := D) F' N' ap (.iidict lo hd' k2)) (l₁.trans (Gh.le_push _ _ _)) ⟨q₁.os, q₁.gens⟩ (.loc (by rw [← S₂.la]; simp))
        · cases e
      · split at e
        · rename_i mm hd
          cases e
          refine fin (intKind G.prog G.w) fun ps s₁ g₁ S₁ l₁ q₁ p₁ => ?_
          obtain ⟨kvs, k1, k2⟩ := dspI_ok hd p₁ .nil List.nodup_nil
          refine ⟨kvs, k1, fun H' o' F' N' ap S₂ hd' => ?_⟩
          exact q _ _ _ (S₂.pushN (D := D) F' N' ap (.idict lo hd' k2)) (l₁.trans (Gh.le_push _ _ _)) ⟨q₁.os, q₁.gens⟩ (.loc (by rw [← S₂.la]; simp))
        · cases e
    · split at e
      · split at e
        · rename_i mm hd
          cases e
          refine fin (PySem.strKind G.prog G.w) fun ps s₁ g₁ S₁ l₁ q₁ p₁ => ?_
          obtain ⟨kvs, k1, k2⟩ := dspS_ok hd p₁ .nil List.nodup_nil
          refine ⟨kvs, k1, fun H' o' F' N' ap S₂ hd' => ?_⟩
          exact q _ _ _ (S₂.freezeN F' N' ap) (l₁.trans (Gh.le_freeze _ _)) ⟨q₁.os, q₁.gens⟩ (.sdict (.inr (.head _)) hd' (k2.mono fun _ _ q => q.mono (Kn.mono fun _ q => .tail _ q)))
        · cases e
      · split at e
        · rename_i mm hd
          cases e
          refine fin (intKind G.prog G.w) fun ps s₁ g₁ S₁ l₁ q₁ p₁ => ?_
          obtain ⟨kvs, k1, k2⟩ := dspI_ok hd p₁ .nil List.nodup_nil
          refine ⟨kvs, k1, fun H' o' F' N' ap S₂ hd' => ?_⟩
          exact q _ _ _ (S₂.freezeN F' N' ap) (l₁.trans (Gh.le_freeze _ _)) ⟨q₁.os, q₁.gens⟩ (.idict (.inr (.head _)) lo hd' (k2.mono fun _ _ q => q.mono (Kn.mono fun _ q => .tail _ q)))
        · cases e
end Mine
end
section
open PySem PySem.W PyProof.Rows PySem.Calls PySem.SeqAt
set_option linter.unusedVariables false
namespace Mine
variable {G : Gl} {α β : Type} {c : Cx} {g : Gh} {s : Shared} {h h' h₁ h₂ : List O}
variable {T : Tab} {r : Rec} {n k : Nat} {ce : CE} {ρ : Rho} {v : V}

/-! private things, and another environment -/
def Cx.on (c : Cx) (l : Led) (e : Env) : Cx := { c with pri := l ++ c.pri, env := e }
theorem Sim.onPerm {H : Heap} {l l' : Led} {e e' : Env} (p : l.Perm l') (S : Sim G (c.on l e) g h H) : Sim G (c.on l' e') g h H := by
  have pm : (ledOf (c.on l e) g).Perm (ledOf (c.on l' e') g) := by
    unfold ledOf Cx.on
    exact List.Perm.append_left _ (List.Perm.append_right _ (List.Perm.append_right _ p))
  exact ⟨S.fr, fun q hq => S.news q (pm.mem_iff.mpr hq), (pm.map (·.1)).nodup_iff.mp S.nd, S.la, S.lm, S.objs⟩
theorem Sim.onEnv {H : Heap} {l : Led} {e e' : Env} (S : Sim G (c.on l e) g h H) : Sim G (c.on l e') g h H := S.onPerm (.refl _)
theorem Sim.on0 {H : Heap} {e : Env} (S : Sim G c g h H) : Sim G (c.on [] e) g h H := ⟨S.fr, S.news, S.nd, S.la, S.lm, S.objs⟩
theorem Sim.off0 {H : Heap} {e : Env} (S : Sim G (c.on [] e) g h H) : Sim G c g h H := ⟨S.fr, S.news, S.nd, S.la, S.lm, S.objs⟩
theorem Sim.privSet {H' : Heap} {D : Addr} {o o' : Obj} (S : Sim G (c.with (D, o)) g h s.heap) (hs : Heap.SameBut D s.heap H') (ho : H'.get? D = some o') : Sim G (c.with (D, o')) g h H' := by
  obtain ⟨S₂, N₂, ap⟩ := S.unpriv
  have N0 := N₂ _ (.head _)
  exact Sim.priv (s := s) S₂ (S₂.fr.change hs N0.2.1 N0.2.2) (N₂.setHead ap hs ho) ap
theorem Sim.privDrop {H H' : Heap} {D : Addr} {o : Obj} (S : Sim G (c.with (D, o)) g h H) (hs : Heap.ExtBut D H H') : Sim G c g h H' := by
  obtain ⟨S₂, N₂, ap⟩ := S.unpriv
  have N0 := N₂ _ (.head _)
  obtain ⟨oL, a1, a2, hoL, a3⟩ := S₂.fr.ns
  refine ⟨⟨⟨oL, a1, a2, hs _ _ (Ne.symm N0.2.1) hoL, a3⟩, fun b x e => hs b x ?_ (S₂.fr.keep b x e), S₂.fr.above⟩, fun p hp => ⟨hs _ _ (ap p hp) (S₂.news p hp).1, (S₂.news p hp).2⟩, S₂.nd, S₂.la, S₂.lm, S₂.objs⟩
  rintro rfl
  have := N0.2.2
  rw [e] at this; cases this
theorem Sim.privPush {o : Obj} (S : Sim G c g h s.heap) (hf : o.isFreed = false) : Sim G (c.with (s.heap.objs.size, o)) g h (s.heap.push o) :=
  S.priv (S.fr.push o) (S.news.push S.fr o hf) fun p hp => Nat.ne_of_lt (S.lt p hp)
theorem Sim.privAt {H : Heap} {D : Addr} {o : Obj} (S : Sim G (c.with (D, o)) g h H) : H.get? D = some o := (S.unpriv.2.1 _ (.head _)).1

/-! iterators over lists and tuples -/
inductive ItO (G : Gl) (c : Cx) (g : Gh) : Srcs → Nat → Obj → Prop
  | list {vs i o a ob items n} : kn c g a ob → ob.cls = .type "list" → ob.data = .seq items n → VVs G c g vs items.toList → o.cls = .type "list_iterator" → o.data = .fields #[.ref a, .int (i : Nat) 0] → ItO G c g (.vals vs) i o
  | tup {vs i o a ob items n} : kn c g a ob → ob.cls = .type "tuple" → ob.data = .seq items n → VVs G c g vs items.toList → o.cls = .type "tuple_iterator" → o.data = .fields #[.ref a, .int (i : Nat) 0] → ItO G c g (.vals vs) i o
  | loc {n i o a} : g.as[n]? = some a → o.cls = .type "list_iterator" → o.data = .fields #[.ref a, .int (i : Nat) 0] → ItO G c g (.at n) i o
theorem ItO.le {g g' : Gh} {src : Srcs} {i : Nat} {o : Obj} (l : g.le g') (x : ItO G c g src i o) : ItO G c g' src i o := by
  cases x with
  | list a b d e f k => exact .list (Kn.mono l.Z _ _ a) b d (VVs.le l e) f k
  | tup a b d e f k => exact .tup (Kn.mono l.Z _ _ a) b d (VVs.le l e) f k
  | loc a b d =>
    refine .loc ?_ b d
    obtain ⟨t, ht⟩ := l.as
    rw [← ht, List.getElem?_append_left (List.getElem?_eq_some_iff.mp a).1]; exact a
theorem ItO.with {src : Srcs} {i : Nat} {o : Obj} {p : Addr × Obj} (x : ItO G c g src i o) : ItO G (c.with p) g src i o := by
  cases x with
  | list a b d e f k => exact .list a b d e f k
  | tup a b d e f k => exact .tup a b d e f k
  | loc a b d => exact .loc a b d
theorem ItO.on {l : Led} {e : Env} {src : Srcs} {i : Nat} {o : Obj} (x : ItO G c g src i o) : ItO G (c.on l e) g src i o := by
  cases x with
  | list a b d e f k => exact .list a b d e f k
  | tup a b d e f k => exact .tup a b d e f k
  | loc a b d => exact .loc a b d
theorem ItO.off {l : Led} {e : Env} {src : Srcs} {i : Nat} {o : Obj} (x : ItO G (c.on l e) g src i o) : ItO G c g src i o := by
  cases x with
  | list a b d e f k => exact .list a b d e f k
  | tup a b d e f k => exact .tup a b d e f k
  | loc a b d => exact .loc a b d

theorem iter_ok {u : Value} {src : Srcs} {f : Nat} {E : Value → Shared → Prop} {Q : Value → Shared → Prop} (O : Ok G c) (S : Sim G c g h s.heap) (rv : VV G c g v u) (e : srcOf h v = some (src, f))
    (q : ∀ oI s', Sim G (c.with (s.heap.objs.size, oI)) g h s'.heap → Same s s' → ItO G c g src 0 oI → f ≤ lim + 1 → Q (.ref s.heap.objs.size) s') : wpAny (model G.prog G.w) c.A (pyIter u) Q E s := by
  have sh : ∀ {α : Type} {l : List α}, short l = true → l.length + 1 ≤ lim + 1 := fun z => Nat.succ_le_succ (Nat.le_of_ble_eq_true z)
  unfold srcOf at e
  split at e
  · split at e
    · rename_i xs hs
      cases e
      cases rv with
      | d rv =>
        cases rv with
        | list k1 k2 k3 k4 =>
          exact wpAny_pyIter_list ⟨_, S.known O _ _ k1, k2, _, k3⟩ (q _ { s with heap := _ } (S.privPush (o := { cls := .type "list_iterator", data := .fields #[.ref _, .int 0 0] }) rfl) ⟨rfl, rfl⟩ (.list k1 k2 k3 (VRs.ofD k4) rfl rfl) (sh hs))
    · cases e
  · split at e
    · rename_i xs hs
      cases e
      cases rv with
      | d rv =>
        cases rv with
        | tuple k1 k2 k3 k4 =>
          exact wpAny_pyIter_tuple ⟨_, S.known O _ _ k1, k2, _, k3⟩ (q _ { s with heap := _ } (S.privPush (o := { cls := .type "tuple_iterator", data := .fields #[.ref _, .int 0 0] }) rfl) ⟨rfl, rfl⟩ (.tup k1 k2 k3 (VRs.ofD k4) rfl rfl) (sh hs))
    · cases e
  · split at e
    · rename_i xs hs
      cases e
      cases rv with
      | lstv k1 k2 k3 k4 =>
          exact wpAny_pyIter_list ⟨_, S.known O _ _ k1, k2, _, k3⟩ (q _ { s with heap := _ } (S.privPush (o := { cls := .type "list_iterator", data := .fields #[.ref _, .int 0 0] }) rfl) ⟨rfl, rfl⟩ (.list k1 k2 k3 k4 rfl rfl) (sh hs))
    · cases e
  · split at e
    · rename_i xs hs
      cases e
      cases rv with
      | tupv k1 k2 k3 k4 =>
          exact wpAny_pyIter_tuple ⟨_, S.known O _ _ k1, k2, _, k3⟩ (q _ { s with heap := _ } (S.privPush (o := { cls := .type "tuple_iterator", data := .fields #[.ref _, .int 0 0] }) rfl) ⟨rfl, rfl⟩ (.tup k1 k2 k3 k4 rfl rfl) (sh hs))
    · cases e
  · split at e
    · rename_i m xs hm
      split at e
      · rename_i hs
        cases e
        cases rv with
        | loc ha =>
          obtain ⟨b, hb, ro⟩ := S.blockAt hm ha
          cases ro with
          | list rd =>
            exact wpAny_pyIter_list ⟨_, S.here (S.inMu hb (.head _)), rfl, _, rfl⟩ (q _ { s with heap := _ } (S.privPush (o := { cls := .type "list_iterator", data := .fields #[.ref _, .int 0 0] }) rfl) ⟨rfl, rfl⟩ (.loc ha rfl rfl) (sh hs))
      · cases e
    · cases e
  · cases e

theorem iter_self {I : Addr} {oI : Obj} {src : Srcs} {i : Nat} {E : Value → Shared → Prop} {Q : Value → Shared → Prop} (hI : s.heap.get? I = some oI) (it : ItO G c g src i oI) (q : Q (.ref I) s) :
    wpAny (model G.prog G.w) c.A (pyIter (.ref I)) Q E s := by
  cases it with
  | list _ _ _ _ a b => exact wpAny_pyIter_listiter ⟨_, hI, a, b⟩ q
  | tup _ _ _ _ a b => exact wpAny_pyIter_tupleiter ⟨_, hI, a, b⟩ q
  | loc _ a b => exact wpAny_pyIter_listiter ⟨_, hI, a, b⟩ q
theorem go_ok {I : Addr} {oI : Obj} {src : Srcs} {i : Nat} {t : PySem.Expr} {u : Value} {E : Value → Shared → Prop} {Q : Unit → Shared → Prop} (hI : s.heap.get? I = some oI) (it : ItO G c g src i oI) (q : Q () s) :
    wpAny (model G.prog G.w) c.A (letOwnedTupleGo t (.ref I) u) Q E s := by
  have no : ∀ {T : String} {x : Value} {i : Nat}, oI.cls = .type T → oI.data = .fields #[x, .int i 0] → (["enumerate", "zip", "dict_itemiterator", "dict_reverseitemiterator", "odict_iterator", "itertools.zip_longest", "itertools.pairwise"].contains T) = false →
      wpAny (model G.prog G.w) c.A (letOwnedTupleGo t (.ref I) u) Q E s := fun {T} {x} {i} h1 h2 h3 => by
    unfold letOwnedTupleGo
    cases t <;> try exact wpAny_pure q
    all_goals
      dsimp only
      cases u <;> try exact wpAny_pure q
      refine wpAny_bind (wpAny_load hI ?_)
      rw [h1, h2]
      dsimp only
      rw [if_neg (by rw [h3, Bool.false_and]; decide)]
      exact wpAny_pure q
  cases it with
  | list _ _ _ _ a b => exact no a b (by decide)
  | tup _ _ _ _ a b => exact no a b (by decide)
  | loc _ a b => exact no a b (by decide)

theorem it_same {a a' : Addr} {i j : Nat} {o : Obj} (b : o.data = .fields #[.ref a, .int (i : Nat) 0]) (b' : o.data = .fields #[.ref a', .int (j : Nat) 0]) : a' = a := by
  rw [b] at b'
  injection b' with b'
  have := congrArg (fun x => x[0]?) b'
  simp at this
  exact this.symm
theorem ItO.step_list {vs : List V} {i : Nat} {o o' : Obj} {ax : Addr} (a : o.cls = .type "list_iterator") (b : o.data = .fields #[.ref ax, .int (i : Nat) 0]) (a' : o'.cls = .type "list_iterator") (b' : o'.data = .fields #[.ref ax, .int ((i + 1 : Nat) : Nat) 0]) (g' : Gh) (it : ItO G c g' (.vals vs) i o) : ItO G c g' (.vals vs) (i + 1) o' := by
  cases it with
  | list j1 j2 j3 j4 x y => have := it_same b y; subst this; exact .list j1 j2 j3 j4 a' b'
  | tup j1 j2 j3 j4 x y => rw [a] at x; exact absurd x (by decide)
theorem ItO.step_tup {vs : List V} {i : Nat} {o o' : Obj} {ax : Addr} (a : o.cls = .type "tuple_iterator") (b : o.data = .fields #[.ref ax, .int (i : Nat) 0]) (a' : o'.cls = .type "tuple_iterator") (b' : o'.data = .fields #[.ref ax, .int ((i + 1 : Nat) : Nat) 0]) (g' : Gh) (it : ItO G c g' (.vals vs) i o) : ItO G c g' (.vals vs) (i + 1) o' := by
  cases it with
  | tup j1 j2 j3 j4 x y => have := it_same b y; subst this; exact .tup j1 j2 j3 j4 a' b'
  | list j1 j2 j3 j4 x y => rw [a] at x; exact absurd x (by decide)
theorem ItO.step_loc {n : Nat} {i : Nat} {o o' : Obj} {ax : Addr} (a : o.cls = .type "list_iterator") (b : o.data = .fields #[.ref ax, .int (i : Nat) 0]) (a' : o'.cls = .type "list_iterator") (b' : o'.data = .fields #[.ref ax, .int ((i + 1 : Nat) : Nat) 0]) (g' : Gh) (it : ItO G c g' (.at n) i o) : ItO G c g' (.at n) (i + 1) o' := by
  cases it with
  | loc j1 x y => have := it_same b y; subst this; exact .loc j1 a' b'
theorem ItO.hb {c' : Cx} (e : c'.hb = c.hb) {src : Srcs} {i : Nat} {o : Obj} (x : ItO G c g src i o) : ItO G c' g src i o := by
  cases x with
  | list a b d f k l => exact .list (by unfold kn; rw [e]; exact a) b d (by unfold VVs; rw [e]; exact f) k l
  | tup a b d f k l => exact .tup (by unfold kn; rw [e]; exact a) b d (by unfold VVs; rw [e]; exact f) k l
  | loc a b d => exact .loc a b d
theorem next_ok {I : Addr} {oI : Obj} {src : Srcs} {i : Nat} {E : Value → Shared → Prop} {Q : Option Value → Shared → Prop} {w : Option V} (O : Ok G c) (S : Sim G (c.with (I, oI)) g h s.heap) (it : ItO G c g src i oI) (e : nextS src i h = some w)
    (qn : ∀ s', w = none → Sim G c g h s'.heap → Same s s' → Q none s')
    (qs : ∀ v u oI' s', w = some v → VV G c g v u → Sim G (c.with (I, oI')) g h s'.heap → Same s s' → (∀ g', ItO G c g' src i oI → ItO G c g' src (i + 1) oI') → Q (some u) s') : wpAny (model G.prog G.w) c.A (pyNext (.ref I)) Q E s := by
  have hI := S.privAt
  have S0 := S.unpriv.1
  cases it with
  | list k1 k2 k3 k4 a b =>
    rename_i vs ax ob items n
    cases e
    have hl : s.heap.IsList ax items := ⟨_, S0.known O _ _ k1, k2, _, k3⟩
    cases hv : vs[i]? with
    | none =>
      rw [hv] at qn
      have hi : items[i]? = none := by
        rw [← Array.getElem?_toList, List.getElem?_eq_none_iff, k4.length]
        exact List.getElem?_eq_none_iff.mp hv
      exact wpAny_pyNext_list_end O.hh ⟨_, hI, a, b⟩ hl hi fun h' he => qn { s with heap := h' } rfl (S.privDrop he) ⟨rfl, rfl⟩
    | some y =>
      obtain ⟨u, h1, h2⟩ := k4.get hv
      rw [hv] at qs
      refine wpAny_pyNext_list_item ⟨_, hI, a, b⟩ hl (x := u) (by rw [← Array.getElem?_toList]; exact h1) fun h' hi hs => ?_
      obtain ⟨o', ho, hc, hd⟩ := hi
      exact qs y u o' { s with heap := h' } rfl h2 (S.privSet (s := s) hs ho) ⟨rfl, rfl⟩ (ItO.step_list a b hc hd)
  | tup k1 k2 k3 k4 a b =>
    rename_i vs ax ob items n
    cases e
    have hl : PySem.Heap.IsTuple s.heap ax items := ⟨_, S0.known O _ _ k1, k2, _, k3⟩
    cases hv : vs[i]? with
    | none =>
      rw [hv] at qn
      have hi : items[i]? = none := by
        rw [← Array.getElem?_toList, List.getElem?_eq_none_iff, k4.length]
        exact List.getElem?_eq_none_iff.mp hv
      exact wpAny_pyNext_tuple_end O.hh ⟨_, hI, a, b⟩ hl hi fun h' he => qn { s with heap := h' } rfl (S.privDrop he) ⟨rfl, rfl⟩
    | some y =>
      obtain ⟨u, h1, h2⟩ := k4.get hv
      rw [hv] at qs
      refine wpAny_pyNext_tuple_item ⟨_, hI, a, b⟩ hl (x := u) (by rw [← Array.getElem?_toList]; exact h1) fun h' hi hs => ?_
      obtain ⟨o', ho, hc, hd⟩ := hi
      exact qs y u o' { s with heap := h' } rfl h2 (S.privSet (s := s) hs ho) ⟨rfl, rfl⟩ (ItO.step_tup a b hc hd)
  | loc k1 a b =>
    rename_i m ax
    unfold nextS at e
    dsimp only at e
    split at e
    case h_2 => cases e
    rename_i xs hm
    obtain ⟨bl, hb, ro⟩ := S0.blockAt hm k1
    cases ro with
    | list rd =>
      rename_i us nn
      have hl : s.heap.IsList ax us.toArray := ⟨_, S0.here (S0.inMu hb (.head _)), rfl, _, rfl⟩
      split at e
      · rename_i y hy
        cases e
        obtain ⟨u, h1, h2⟩ := RDs.get rd hy
        refine wpAny_pyNext_list_item ⟨_, hI, a, b⟩ hl (x := u) (by simpa using h1) fun h' hi hs => ?_
        obtain ⟨o', ho, hc, hd⟩ := hi
        exact qs _ u o' { s with heap := h' } rfl (.d h2) (S.privSet (s := s) hs ho) ⟨rfl, rfl⟩ (ItO.step_loc a b hc hd)
      · rename_i hy
        cases e
        have hi : us.toArray[i]? = none := by
          rw [List.getElem?_toArray, List.getElem?_eq_none_iff, rd.length]
          exact List.getElem?_eq_none_iff.mp hy
        exact wpAny_pyNext_list_end O.hh ⟨_, hI, a, b⟩ hl hi fun h' he => qn { s with heap := h' } rfl (S.privDrop he) ⟨rfl, rfl⟩
end Mine
end
section
open PySem PySem.W PyProof.Rows PySem.Calls PySem.SeqAt
set_option linter.unusedVariables false
namespace Mine
variable {G : Gl} {α β : Type} {c : Cx} {g : Gh} {s : Shared} {h h' h₁ h₂ : List O}
variable {T : Tab} {r : Rec} {n k : Nat} {ce : CE} {ρ ρ' : Rho} {v : V}

/-! contexts among which a store moves -/
structure Fam (G : Gl) (ce : CE) (e : Env) where
  X : Type
  cx : X → Cx
  hb : Heap
  A : Around
  hb_eq : ∀ x, (cx x).hb = hb
  A_eq : ∀ x, (cx x).A = A
  ok : ∀ x, Ok G (cx x)
  store : ∀ (x : X) (y : Str) (i : Nat) (g : Gh) (h : List O) (s : Shared) (u : Value) (E : Value → Shared → Prop) (Q : Unit → Shared → Prop), storeSlot ce y = some i → Sim G (cx x) g h s.heap →
    (∀ x' s', Sim G (cx x') g h s'.heap → Same s s' → (∀ z w, z ≠ y → Var (cx x) z w → Var (cx x') z w) → Var (cx x') y u → Q () s') → wpAny (model G.prog G.w) A (storeName e y u) Q E s

theorem slotAt_get {x : Str} : ∀ {names : List (Str × NameKind)} {j i : Nat}, slotAt x names j = some i → ∃ d kd, i = j + d ∧ names[d]? = some (x, kd) ∧ kindAt x names = some kd ∧ lookable kd = true
  | [], _, _, e => by cases e
  | (y, k) :: r, j, i, e => by
    unfold slotAt at e
    split at e
    · rename_i hx
      have hxy := (strEq_iff x y).mp hx
      subst hxy
      split at e <;> cases e
      all_goals exact ⟨0, _, rfl, rfl, by unfold kindAt; rw [if_pos hx], rfl⟩
    · rename_i hx
      obtain ⟨d, kd, h1, h2, h3, h4⟩ := slotAt_get e
      exact ⟨d + 1, kd, by omega, h2, by unfold kindAt; rw [if_neg hx]; exact h3, h4⟩
theorem storeSlot_get {y : Str} {i : Nat} (e : storeSlot ce y = some i) : ∃ kd, ce.names[i]? = some (y, kd) ∧ (kindAt y ce.names = some .local ∨ kindAt y ce.names = some .cell) := by
  unfold storeSlot at e
  split at e
  · obtain ⟨d, kd, h1, h2, h3, h4⟩ := slotAt_get e
    rw [Nat.zero_add] at h1
    subst h1
    exact ⟨kd, h2, .inl (by assumption)⟩
  · obtain ⟨d, kd, h1, h2, h3, h4⟩ := slotAt_get e
    rw [Nat.zero_add] at h1
    subst h1
    exact ⟨kd, h2, .inr (by assumption)⟩
  · cases e

theorem Vars.store {c' : Cx} {y : Str} {i : Nat} {u : Value} (Vs : Vars G c g ce.names ρ) (nd : (ce.names.map (·.1)).Nodup) (hb : c'.hb = c.hb) (hs : storeSlot ce y = some i)
    (k1 : ∀ z w, z ≠ y → Var c z w → Var c' z w) (k2 : Var c' y u) (rv : VV G c g v u) : Vars G c' g ce.names (ρ.set i (some v)) := by
  intro j x k v' h1 h2 h3
  obtain ⟨kd, hi, _⟩ := storeSlot_get hs
  rw [List.getElem?_set] at h3
  by_cases hij : i = j
  · subst hij
    rw [if_pos rfl] at h3
    split at h3
    · cases h3
      rw [h1] at hi; cases hi
      exact ⟨u, k2, by unfold VV; rw [hb]; exact rv⟩
    · cases h3
  · rw [if_neg hij] at h3
    obtain ⟨w, h4, h5⟩ := Vs j x k v' h1 h2 h3
    refine ⟨w, k1 x w ?_ h4, by unfold VV; rw [hb]; exact h5⟩
    rintro rfl
    have a1 : (ce.names.map (·.1))[i]? = some x := by rw [List.getElem?_map, hi]; rfl
    have a2 : (ce.names.map (·.1))[j]? = some x := by rw [List.getElem?_map, h1]; rfl
    obtain ⟨b1, b2⟩ := List.getElem?_eq_some_iff.mp a1
    obtain ⟨b3, b4⟩ := List.getElem?_eq_some_iff.mp a2
    have pw := List.pairwise_iff_getElem.mp nd
    rcases Nat.lt_or_gt_of_ne hij with z | z
    · exact pw i j b1 b3 z (b2.trans b4.symm)
    · exact pw j i b3 b1 z (b4.trans b2.symm)

theorem VVs.rev {l : List V} {us : List Value} (x : VVs G c g l us) : VVs G c g l.reverse us.reverse := by
  have app : ∀ {l l' : List V} {us us' : List Value}, VVs G c g l us → VVs G c g l' us' → VVs G c g (l ++ l') (us ++ us') := by
    intro l
    induction l with
    | nil => intro l' us us' a b; cases a; exact b
    | cons x l ih => intro l' us us' a b; cases a with | cons p q => exact .cons p (ih q b)
  induction l generalizing us with
  | nil => cases x; exact .nil
  | cons v l ih => cases x with | cons p q => rw [List.reverse_cons, List.reverse_cons]; exact app (ih q) (.cons p .nil)

inductive Tgts (G : Gl) (ce : CE) (e : Env) : List (Value → Sem Unit) → List Nat → Prop
  | nil : Tgts G ce e [] []
  | cons {f : Value → Sem Unit} {y : Str} {i : Nat} {fs : List (Value → Sem Unit)} {is : List Nat} : storeSlot ce y = some i →
      (∀ (A : Around) (E : Value → Shared → Prop) (Q : Unit → Shared → Prop) (s : Shared) (u : Value), wpAny (model G.prog G.w) A (storeName e y u) Q E s → wpAny (model G.prog G.w) A (f u) Q E s) → Tgts G ce e fs is → Tgts G ce e (f :: fs) (i :: is)
theorem Tgts.append {e : Env} {fs fs' : List (Value → Sem Unit)} {is is' : List Nat} (x : Tgts G ce e fs is) (y : Tgts G ce e fs' is') : Tgts G ce e (fs ++ fs') (is ++ is') := by
  induction x with
  | nil => exact y
  | cons a b _ ih => exact .cons a b ih
theorem Tgts.rev {e : Env} {fs : List (Value → Sem Unit)} {is : List Nat} (x : Tgts G ce e fs is) : Tgts G ce e fs.reverse is.reverse := by
  induction x with
  | nil => exact .nil
  | cons a b _ ih => rw [List.reverse_cons, List.reverse_cons]; exact ih.append (.cons a b .nil)
theorem Tgts.length {e : Env} {fs : List (Value → Sem Unit)} {is : List Nat} (x : Tgts G ce e fs is) : fs.length = is.length := by
  induction x with
  | nil => rfl
  | cons a b _ ih => simp [ih]

section
variable {e : Env} (F : Fam G ce e) (nd : (ce.names.map (·.1)).Nodup)
include nd
theorem inOrder_ok {fs : List (Value → Sem Unit)} {is : List Nat} (t : Tgts G ce e fs is) : ∀ {vs : List V} {us : List Value} {x : F.X} {g : Gh} {s : Shared} {ρ ρ' : Rho} {E : Value → Shared → Prop} {Q : Unit → Shared → Prop}, pick vs is ρ = some ρ' → VVs G (F.cx x) g vs us → Sim G (F.cx x) g h s.heap → Vars G (F.cx x) g ce.names ρ →
    (∀ x' s', Sim G (F.cx x') g h s'.heap → Same s s' → Vars G (F.cx x') g ce.names ρ' → Q () s') → wpAny (model G.prog G.w) F.A (assignInOrder fs us) Q E s := by
  induction t with
  | nil =>
    intro vs us x g s ρ ρ' E Q e rv S Vs q
    unfold pick at e
    split at e
    · cases e; cases rv; exact wpAny_pure (q x s S (.refl _) Vs)
    · cases e
  | cons h1 h2 _ ih =>
    intro vs us x g s ρ ρ' E Q e rv S Vs q
    unfold pick at e
    split at e
    · rename_i v vs
      cases rv with
      | cons p1 p2 =>
        refine assignInOrder_cons (h2 _ _ _ _ _ (F.store x _ _ g h s _ _ _ h1 S fun x' s' S' q' k1 k2 => ?_))
        have hb : (F.cx x').hb = (F.cx x).hb := (F.hb_eq x').trans (F.hb_eq x).symm
        exact ih e (by unfold VVs; rw [hb]; exact p2) S' (Vs.store nd hb h1 k1 k2 p1) fun x'' s'' S'' q'' Vs'' => q x'' s'' S'' (q'.trans q'') Vs''
    · cases e
end

theorem parts_src {l : List V} (e : parts v = some l) (hl : l.length ≤ 20) : srcOf h v = some (.vals l, l.length + 1) := by
  have sh : ∀ {α : Type} {l : List α}, l.length ≤ 20 → short l = true := fun z => Nat.ble_eq_true_of_le (Nat.le_trans z (by decide))
  unfold parts at e
  split at e <;> cases e
  · rw [List.length_map] at hl; unfold srcOf; dsimp only; rw [if_pos (sh hl), List.length_map]
  · rw [List.length_map] at hl; unfold srcOf; dsimp only; rw [if_pos (sh hl), List.length_map]
  · unfold srcOf; dsimp only; rw [if_pos (sh hl)]
theorem draw_ok {I : Addr} {l : List V} {E : Value → Shared → Prop} (O : Ok G c) : ∀ {k i : Nat} {oI : Obj} {s : Shared} {Q : List Value → Shared → Prop}, Sim G (c.with (I, oI)) g h s.heap → ItO G c g (.vals l) i oI → i + k = l.length →
    (∀ us oI' s', Sim G (c.with (I, oI')) g h s'.heap → Same s s' → ItO G c g (.vals l) l.length oI' → VVs G c g (l.drop i) us → Q us s') → wpAny (model G.prog G.w) c.A (draw (.ref I) k) Q E s
  | 0, i, oI, s, Q, S, it, hk, q => by
    have hi : i = l.length := hk
    subst hi
    refine wpAny_pure (q [] oI s S (.refl _) it ?_)
    rw [List.drop_length]; exact .nil
  | k + 1, i, oI, s, Q, S, it, hk, q => by
    have hi : i < l.length := by omega
    show wpAny _ _ (pyNext (.ref I) >>= _) Q E s
    refine wpAny_bind (next_ok O S it (w := some l[i]) (by show some l[i]? = _; rw [List.getElem?_eq_getElem hi]) (fun s' z => by cases z) fun v u oI' s₁ hv rv S₁ q₁ it₁' => ?_)
    cases hv
    have it₁ := it₁' g it
    refine wpAny_bind (wpAny_holding (draw_ok O S₁ it₁ (by omega) fun us oI'' s₂ S₂ q₂ it₂ rvs => wpAny_pure ?_))
    refine q _ oI'' s₂ S₂ (q₁.trans q₂) it₂ ?_
    rw [List.drop_eq_getElem_cons hi]
    exact .cons rv rvs
theorem unpack_ok {u : Value} {l : List V} {E : Value → Shared → Prop} {Q : List Value → Shared → Prop} (O : Ok G c) (S : Sim G c g h s.heap) (rv : VV G c g v u) (e : parts v = some l) (hl : l.length ≤ 20)
    (q : ∀ us s', Sim G c g h s'.heap → Same s s' → VVs G c g l us → Q us s') : wpAny (model G.prog G.w) c.A (unpackItems u l.length none) Q E s := by
  have hT : ∃ t, (s.TypeIs u "tuple" ∨ s.TypeIs u "list") ∧ t = u := by
    unfold parts at e
    split at e <;> cases e
    · cases rv with | d rv => cases rv with | tuple a b d f => exact ⟨_, .inl ⟨_, S.known O _ _ a, b⟩, rfl⟩
    · cases rv with | d rv => cases rv with | list a b d f => exact ⟨_, .inr ⟨_, S.known O _ _ a, b⟩, rfl⟩
    · cases rv with | tupv a b d f => exact ⟨_, .inl ⟨_, S.known O _ _ a, b⟩, rfl⟩
  obtain ⟨_, hT, _⟩ := hT
  unfold unpackItems
  refine wpAny_bind ?_
  have rest : wpAny (model G.prog G.w) c.A (do
      let it ← holding [u] (pyIter u)
      let items ← holding [it] (draw it l.length)
      if items.length < l.length then
        rule "unpack.too-few"; raiseError "ValueError" s!"not enough values to unpack (expected {l.length}, got {items.length})"
      if (← holding items (pyNext it)).isSome then
        rule "unpack.too-many"; raiseError "ValueError" s!"too many values to unpack (expected {l.length})"
      return items) Q E s := by
    refine wpAny_bind (wpAny_holding (iter_ok O S rv (parts_src e hl) fun oI s₁ S₁ q₁ it₁ _ => ?_))
    refine wpAny_bind (wpAny_holding (draw_ok O S₁ it₁ (by omega) fun us oI' s₂ S₂ q₂ it₂ rvs => ?_))
    rw [List.drop_zero] at rvs
    rw [if_neg (by rw [rvs.length]; omega)]
    refine wpAny_bind (wpAny_holding (next_ok O S₂ it₂ (w := none) (by show some l[l.length]? = _; rw [List.getElem?_eq_none (Nat.le_refl _)]) (fun s₃ _ S₃ q₃ => ?_) fun v u oI' s₁ hv => by cases hv))
    simp only [Option.isSome_none, Bool.false_eq_true, if_false]
    exact wpAny_pure (q us s₃ S₃ ((q₁.trans q₂).trans q₃) rvs)
  unfold notIterableAtAll
  rcases hT with hT | hT
  · refine wpAny_bind (wpAny_specialOf hT F.slot_tuple_iter.lookup (wpAny_pure ?_))
    simp only [Bool.false_eq_true, if_false]
    exact rest
  · refine wpAny_bind (wpAny_specialOf hT PySem.slot_list_iter.lookup (wpAny_pure ?_))
    simp only [Bool.false_eq_true, if_false]
    exact rest
end Mine
end
section
open PySem PySem.W PyProof.Rows PySem.Calls PySem.SeqAt
set_option linter.unusedVariables false
namespace Mine
variable {G : Gl} {α β : Type} {c : Cx} {g : Gh} {s : Shared} {h h' h₁ h₂ : List O}
variable {T : Tab} {r : Rec} {n k : Nat} {ce : CE} {ρ ρ' : Rho} {v : V}

theorem mapO_nil {α β : Type} {f : α → Option β} {ys : List β} (e : mapO f [] = some ys) : ys = [] := by cases e; rfl
theorem mapO_cons {α β : Type} {f : α → Option β} {x : α} {xs : List α} {ys : List β} (e : mapO f (x :: xs) = some ys) : ∃ y l, f x = some y ∧ mapO f xs = some l ∧ ys = y :: l := by
  unfold mapO at e
  split at e
  · rename_i y hy
    split at e
    · rename_i l hl; cases e; exact ⟨y, l, hy, hl, rfl⟩
    · cases e
  · cases e

theorem tgts_each {e : Env} : ∀ {ts : List PySem.Expr} {is : List Nat}, mapO (nameSlot ce) ts = some is → Tgts G ce e ((assignEach ts e).map (·.2)) is ∧ (assignEach ts e).findIdx? (·.1) = none ∧ (assignEach ts e).length = is.length
  | [], is, h => by rw [mapO_nil h]; exact ⟨.nil, rfl, rfl⟩
  | t :: ts, is, h => by
    obtain ⟨i, l, h1, h2, rfl⟩ := mapO_cons h
    obtain ⟨a, b, d⟩ := tgts_each (e := e) h2
    cases t <;> try (cases h1; done)
    rename_i x p
    refine ⟨.cons (y := x) h1 (fun A E Q s u q => assign_Name q) a, ?_, ?_⟩
    · show List.findIdx? (·.1) ((false, assign (.Name x p) e) :: assignEach ts e) = none
      rw [List.findIdx?_cons]
      rw [if_neg (show ¬ ((false : Bool) = true) from Bool.false_ne_true), b]; rfl
    · show ((false, assign (.Name x p) e) :: assignEach ts e).length = _
      simp [d]
theorem tgts_names {e : Env} : ∀ {names : List Str} {is : List Nat}, mapO (storeSlot ce) names = some is → Tgts G ce e (names.map fun n => bindName e n) is
  | [], is, h => by rw [mapO_nil h]; exact .nil
  | t :: ts, is, h => by
    obtain ⟨i, l, h1, h2, rfl⟩ := mapO_cons h
    exact .cons h1 (fun A E Q s u q => bindName_ q) (tgts_names h2)

section
variable {e : Env} (F : Fam G ce e) (nd : (ce.names.map (·.1)).Nodup)
include nd
theorem tgt_ok {t : PySem.Expr} {tg : Tgt} {x : F.X} {u : Value} {E : Value → Shared → Prop} {Q : Unit → Shared → Prop} (ht : tgtOf ce t = some tg) (hb : bindT tg v ρ = some ρ') (rv : VV G (F.cx x) g v u)
    (S : Sim G (F.cx x) g h s.heap) (Vs : Vars G (F.cx x) g ce.names ρ) (q : ∀ x' s', Sim G (F.cx x') g h s'.heap → Same s s' → Vars G (F.cx x') g ce.names ρ' → Q () s') :
    wpAny (model G.prog G.w) F.A (assign t e u) Q E s := by
  unfold tgtOf at ht
  split at ht
  · rename_i y p
    split at ht
    · rename_i i hi
      cases ht
      cases hb
      refine assign_Name (F.store x y i g h s u E Q hi S fun x' s' S' q' k1 k2 => q x' s' S' q' ?_)
      exact Vs.store nd ((F.hb_eq x').trans (F.hb_eq x).symm) hi k1 k2 rv
    · cases ht
  · rename_i ts i p
    split at ht
    · rename_i is his
      cases ht
      unfold bindT bindU at hb
      dsimp only at hb
      split at hb
      · rename_i l hl
        split at hb
        · rename_i hc
          have hc' := Bool.and_eq_true_iff.mp hc
          have e1 : l.length = is.length := Nat.eq_of_beq_eq_true hc'.1
          have e2 : l.length ≤ 20 := Nat.le_of_ble_eq_true hc'.2
          simp only [Bool.false_eq_true, if_false] at hb
          obtain ⟨t1, t2, t3⟩ := tgts_each (G := G) (e := e) his
          rw [assign_Tuple]
          refine wpAny_bind (wpAny_standAt ?_)
          unfold unpack
          rw [t2, t3, ← e1]
          refine wpAny_bind (wpAny_holding ?_)
          rw [← F.A_eq x]
          refine unpack_ok (F.ok x) S rv hl e2 fun us s' S' q' rvs => ?_
          rw [F.A_eq x]
          exact inOrder_ok F nd t1 hb rvs S' Vs fun x' s'' S'' q'' Vs' => q x' s'' S'' (q'.trans q'') Vs'
        · cases hb
      · cases hb
    · cases ht
  · cases ht
/-- names stored to, the last first -/
theorem swap_ok {names : List Str} {is : List Nat} {x : F.X} {u : Value} {E : Value → Shared → Prop} {Q : Unit → Shared → Prop} (ht : mapO (storeSlot ce) names = some is) (hb : bindU true is v ρ = some ρ') (rv : VV G (F.cx x) g v u)
    (S : Sim G (F.cx x) g h s.heap) (Vs : Vars G (F.cx x) g ce.names ρ) (q : ∀ x' s', Sim G (F.cx x') g h s'.heap → Same s s' → Vars G (F.cx x') g ce.names ρ' → Q () s') :
    wpAny (model G.prog G.w) F.A (unpackItems u names.length none) (fun items s₂ => wpAny (model G.prog G.w) F.A (assignInOrder (names.reverse.map fun n => bindName e n) items.reverse) Q E s₂) E s := by
  unfold bindU at hb
  split at hb
  · rename_i l hl
    split at hb
    · rename_i hc
      have hc' := Bool.and_eq_true_iff.mp hc
      have e1 : l.length = is.length := Nat.eq_of_beq_eq_true hc'.1
      have e2 : l.length ≤ 20 := Nat.le_of_ble_eq_true hc'.2
      simp only [if_true] at hb
      have t1 := (tgts_names (G := G) (e := e) ht)
      have e3 : names.length = l.length := by rw [e1, ← t1.length, List.length_map]
      rw [e3]
      rw [← F.A_eq x]
      refine unpack_ok (F.ok x) S rv hl e2 fun us s' S' q' rvs => ?_
      rw [F.A_eq x]
      have t2 := t1.rev
      rw [← List.map_reverse] at t2
      exact inOrder_ok F nd t2 hb rvs.rev S' Vs fun x' s'' S'' q'' Vs' => q x' s'' S'' (q'.trans q'') Vs'
    · cases hb
  · cases hb
end

/-! the body of a function -/
def Cx.st (c : Cx) (m : Str → Option Value) (cells : Led) (cm : Str → Option Value) : Cx := { c with m := m, cells := cells, cm := cm }
structure FOk (c : Cx) : Prop where
  env : c.env = c.fenv
  loc : c.env.locals = c.L
structure FX (c : Cx) where
  m : Str → Option Value
  cells : Led
  cm : Str → Option Value
  ok : CellsAre cm c.fenv.cells cells
theorem Ok.st {m : Str → Option Value} {cells : Led} {cm : Str → Option Value} (O : Ok G c) (hc : CellsAre cm c.fenv.cells cells) : Ok G (c.st m cells cm) := ⟨O.Kb, O.stay, O.K, O.T, O.below, O.frames, O.ff, O.fk, O.hh, O.ek, O.eg, O.eb, hc⟩

theorem CellsAre.at {cm : Str → Option Value} {cs : List (Str × Addr)} {cells : Led} (x : CellsAre cm cs cells) {y : Str} {a : Addr} (hy : cs.lookup y = some a) : ∃ o, (a, o) ∈ cells ∧ o.data = .cell (cm y) := by
  induction x with
  | nil => cases hy
  | @cons n c o cs cells h1 _ ih =>
    rw [List.lookup_cons] at hy
    cases hn : y == n with
    | true =>
      rw [hn] at hy
      cases hy
      have : y = n := by simpa using hn
      subst this
      exact ⟨o, .head _, h1⟩
    | false =>
      rw [hn] at hy
      obtain ⟨o', h2, h3⟩ := ih hy
      exact ⟨o', .tail _ h2, h3⟩
theorem CellsAre.fst {cm : Str → Option Value} {cs : List (Str × Addr)} {cells : Led} (x : CellsAre cm cs cells) : cells.map (·.1) = cs.map (·.2) := by
  induction x with
  | nil => rfl
  | cons _ _ ih => simp [ih]
theorem lookup_mem {cs : List (Str × Addr)} {y : Str} {a : Addr} (h : cs.lookup y = some a) : (y, a) ∈ cs := by
  induction cs with
  | nil => cases h
  | cons p cs ih =>
    obtain ⟨n, b⟩ := p
    rw [List.lookup_cons] at h
    cases hn : y == n with
    | true =>
      rw [hn] at h
      cases h
      have : y = n := by simpa using hn
      subst this
      exact .head _
    | false => rw [hn] at h; exact .tail _ (ih h)
theorem CellsAre.set {cm : Str → Option Value} {cs : List (Str × Addr)} {cells : Led} (x : CellsAre cm cs cells) {y : Str} {a : Addr} {o' : Obj} {v : Value} (nd : (cells.map (·.1)).Nodup) (hy : (y, a) ∈ cs) (ndn : (cs.map (·.1)).Nodup) (ho : o'.data = .cell (some v)) :
    CellsAre (fun z => if z = y then some v else cm z) cs (rep a o' cells) := by
  have key : ∀ {cs : List (Str × Addr)} {cells : Led}, CellsAre cm cs cells → (∀ p ∈ cs, p.2 = a ↔ p.1 = y) → CellsAre (fun z => if z = y then some v else cm z) cs (rep a o' cells) := by
    intro cs cells x
    induction x with
    | nil => intro _; exact .nil
    | @cons n c o cs cells h1 _ ih =>
      intro hk
      have h2 := hk (n, c) (.head _)
      have ih' := ih fun p hp => hk p (.tail _ hp)
      unfold rep
      rw [List.map_cons]
      by_cases hc : c = a
      · rw [if_pos hc]
        have : n = y := h2.mp hc
        subst hc
        exact .cons (by rw [ho, if_pos this]) ih'
      · rw [if_neg hc]
        have : n ≠ y := fun z => hc (h2.mpr z)
        exact .cons (by rw [h1, if_neg this]) ih'
  refine key x fun p hp => ⟨fun e => ?_, fun e => ?_⟩
  · rw [CellsAre.fst x] at nd
    have : p = (y, a) := by
      have pw := List.pairwise_map.mp nd
      rcases List.mem_iff_getElem.mp hp with ⟨i, hi, rfl⟩
      rcases List.mem_iff_getElem.mp hy with ⟨j, hj, ej⟩
      have := List.pairwise_iff_getElem.mp pw
      rcases Nat.lt_trichotomy i j with z | z | z
      · exact absurd (e.trans (by rw [ej])) (this i j hi hj z)
      · subst z; exact ej
      · exact absurd ((by rw [ej] : cs[j].2 = a).trans e.symm) (this j i hj hi z)
    rw [this]
  · have : p = (y, a) := by
      have pw := List.pairwise_map.mp ndn
      rcases List.mem_iff_getElem.mp hp with ⟨i, hi, rfl⟩
      rcases List.mem_iff_getElem.mp hy with ⟨j, hj, ej⟩
      have := List.pairwise_iff_getElem.mp pw
      rcases Nat.lt_trichotomy i j with z | z | z
      · exact absurd (e.trans (by rw [ej])) (this i j hi hj z)
      · subst z; exact ej
      · exact absurd ((by rw [ej] : cs[j].1 = y).trans e.symm) (this j i hj hi z)
    rw [this]
theorem News.rep {h₀ H H' : Heap} {L : Addr} {l : Led} {d : Addr} {o o' : Obj} (N : News h₀ L H l) (hd : (d, o) ∈ l) (hs : Heap.SameBut d H H') (ho : H'.get? d = some o') : News h₀ L H' (rep d o' l) := fun p hp => by
  rcases rep_mem hp with rfl | ⟨h1, h2⟩
  · exact ⟨ho, (N _ hd).2⟩
  · exact ⟨(hs.2 _ h2).trans (N p h1).1, (N p h1).2⟩

def famF (c : Cx) (G : Gl) (ce : CE) (O : Ok G c) (C : CeOk G ce c) (f : FOk c) (ndn : (c.fenv.cells.map (·.1)).Nodup) : Fam G ce c.env where
  X := FX c
  cx := fun x => c.st x.m x.cells x.cm
  hb := c.hb
  A := c.A
  hb_eq := fun _ => rfl
  A_eq := fun _ => rfl
  ok := fun x => O.st x.ok
  store := fun x y i g h s u E Q hy S q => by
    obtain ⟨kd, h1, h2⟩ := storeSlot_get hy
    rcases h2 with h2 | h2
    · have hk := C.loc y h2
      refine wpAny_storeName_local hk (m := x.m) (by rw [f.loc]; exact S.fr.ns) (fun h' hn hs => ?_) (by show (c.env.scope.kind == _ || _) = false; rw [O.ek]; rfl)
      rw [f.loc] at hn hs
      refine q ⟨fun z => if z = y then some u else x.m z, x.cells, x.cm, x.ok⟩ _ ⟨S.fr.set hn hs, S.news.set hs, S.nd, S.la, S.lm, S.objs⟩ ⟨rfl, rfl⟩ (fun z w hz hv => ?_) (.inl ⟨hk, f.loc, if_pos rfl⟩)
      rcases hv with ⟨a, b, d⟩ | hv | hv
      · exact .inl ⟨a, b, (if_neg hz).trans d⟩
      · exact .inr (.inl hv)
      · exact .inr (.inr hv)
    · obtain ⟨hk, a, ha⟩ := C.cell y h2
      have ha' : c.fenv.cells.lookup y = some a := by rw [← f.env]; exact ha
      obtain ⟨o, ho, hd⟩ := CellsAre.at x.ok ha'
      have hin : (a, o) ∈ ledOf (c.st x.m x.cells x.cm) g := List.mem_append_left _ ho
      have hN := S.news _ hin
      refine wpAny_storeName_cell O.ek hk ha (v₀ := x.cm y) ⟨o, hN.1, hd⟩ fun h' hv hs => ?_
      obtain ⟨o', ho', hd'⟩ := hv
      have ndc : (x.cells.map (·.1)).Nodup := by
        have := S.nd; unfold ledOf at this; rw [List.map_append, List.nodup_append] at this; exact this.1
      refine q ⟨x.m, Mine.rep a o' x.cells, fun z => if z = y then some u else x.cm z, CellsAre.set x.ok ndc (lookup_mem ha') ndn hd'⟩ { s with heap := h' } ?_ ⟨rfl, rfl⟩ (fun z w hz hv => ?_) ?_
      · have e : ledOf (c.st x.m (Mine.rep a o' x.cells) (fun z => if z = y then some u else x.cm z)) g = Mine.rep a o' (ledOf (c.st x.m x.cells x.cm) g) := by
          unfold ledOf
          rw [rep_append]
          congr 1
          exact (rep_id fun p hp => (S.apartCells ho hp).symm).symm
        exact ⟨S.fr.change hs hN.2.1 hN.2.2, by rw [e]; exact News.rep S.news hin hs ho', by rw [e, rep_fst]; exact S.nd, S.la, S.lm, S.objs⟩
      · rcases hv with hv | hv | ⟨b1, a', o₁, b2, b3, b4⟩
        · exact .inl hv
        · exact .inr (.inl hv)
        · refine .inr (.inr ⟨b1, a', o₁, b2, ?_, b4⟩)
          have hne : a' ≠ a := by
            rintro rfl
            have nd := ndc
            rw [CellsAre.fst x.ok] at nd
            have pw := List.pairwise_map.mp nd
            have m1 := lookup_mem (by rw [← f.env]; exact b2 : c.fenv.cells.lookup z = some a')
            have m2 := lookup_mem ha'
            rcases List.mem_iff_getElem.mp m1 with ⟨i, hi, ei⟩
            rcases List.mem_iff_getElem.mp m2 with ⟨j, hj, ej⟩
            have := List.pairwise_iff_getElem.mp pw
            rcases Nat.lt_trichotomy i j with z' | z' | z'
            · exact absurd (by rw [ei, ej]) (this i j hi hj z')
            · subst z'; rw [ei] at ej; cases ej; exact hz rfl
            · exact absurd (by rw [ei, ej]) (this j i hj hi z')
          have : (a', o₁) ∈ Mine.rep a o' x.cells := List.mem_map.mpr ⟨(a', o₁), b3, if_neg hne⟩
          exact this
      · refine .inr (.inr ⟨hk, a, o', ha, ?_, hd'⟩)
        exact List.mem_map.mpr ⟨(a, o), ho, if_pos rfl⟩
end Mine
end
section
open PySem PySem.W PyProof.Rows PySem.Calls PySem.SeqAt
set_option linter.unusedVariables false
namespace Mine
variable {G : Gl} {α β : Type} {c : Cx} {g : Gh} {s : Shared} {h h' h₁ h₂ : List O}
variable {T : Tab} {r : Rec} {n k : Nat} {ce : CE} {ρ ρ' : Rho} {v : V}

/-! the closure of a comprehension -/
theorem closure_ok {env : Env} {scope : Scope} (hf : ∀ x, (x, NameKind.free) ∈ scope.names → ∃ a, env.cells.lookup x = some a) :
    ∃ cl, closureFor scope env = pure cl ∧ (∀ x a, cl.lookup x = some a → env.cells.lookup x = some a) ∧ ∀ x, (x, NameKind.free) ∈ scope.names → ∃ a, cl.lookup x = some a := by
  have key : ∀ (names : List (Str × NameKind)) (cs : List (Str × Addr)), (∀ x, (x, NameKind.free) ∈ names → ∃ a, env.cells.lookup x = some a) → (∀ x a, cs.lookup x = some a → env.cells.lookup x = some a) →
      ∃ cl, (forIn (m := Sem) names cs fun x r => if x.2 == NameKind.free then do let a ← cellOf env x.1; pure (ForInStep.yield ((x.1, a) :: r)) else pure (ForInStep.yield r)) = pure cl ∧
        (∀ x a, cl.lookup x = some a → env.cells.lookup x = some a) ∧ (∀ x, (x, NameKind.free) ∈ names → ∃ a, cl.lookup x = some a) ∧ ∀ x, (∃ a, cs.lookup x = some a) → ∃ a, cl.lookup x = some a := by
    intro names
    induction names with
    | nil => intro cs _ h; exact ⟨cs, rfl, h, (fun _ h => nomatch h), fun _ h => h⟩
    | cons p names ih =>
      intro cs hf hc
      obtain ⟨x, kd⟩ := p
      rw [List.forIn_cons]
      by_cases hk : kd = .free
      · subst hk
        obtain ⟨a, ha⟩ := hf x (.head _)
        obtain ⟨cl, h1, h2, h3, h4⟩ := ih ((x, a) :: cs) (fun y hy => hf y (.tail _ hy)) (fun y b hb => by
          rw [List.lookup_cons] at hb
          cases hn : y == x with
          | true => rw [hn] at hb; cases hb; have : y = x := by simpa using hn
                    subst this; exact ha
          | false => rw [hn] at hb; exact hc y b hb)
        refine ⟨cl, ?_, h2, fun y hy => ?_, fun y hy => h4 y ?_⟩
        · have : cellOf env x = pure a := by unfold cellOf; rw [ha]
          simp only [this]
          exact h1
        · rcases List.mem_cons.mp hy with e | hy
          · cases e; exact h4 x ⟨a, by rw [List.lookup_cons]; simp⟩
          · exact h3 y hy
        · obtain ⟨b, hb⟩ := hy
          rw [List.lookup_cons]
          cases y == x with
          | true => exact ⟨a, rfl⟩
          | false => exact ⟨b, hb⟩
      · obtain ⟨cl, h1, h2, h3, h4⟩ := ih cs (fun y hy => hf y (.tail _ hy)) hc
        refine ⟨cl, ?_, h2, fun y hy => ?_, h4⟩
        · have : (kd == NameKind.free) = false := by simpa using hk
          simp only [this, Bool.false_eq_true, if_false]
          exact h1
        · rcases List.mem_cons.mp hy with e | hy
          · cases e; exact absurd rfl hk
          · exact h3 y hy
  obtain ⟨cl, h1, h2, h3, _⟩ := key scope.names [] hf (fun _ _ h => nomatch h)
  refine ⟨cl, ?_, h2, h3⟩
  show (forIn (m := Sem) scope.names ([] : List (Str × Addr)) (fun x r => if x.2 == NameKind.free then do let a ← cellOf env x.1; pure (ForInStep.yield ((x.1, a) :: r)) else pure (ForInStep.yield r)) >>= fun cs => pure cs) = _
  rw [h1]; rfl

theorem lookup_relabel {env : Env} : ∀ {names : List (Str × NameKind)} {x : Str}, 
    (names.map fun (n, k) => if (k == NameKind.free && env.scope.kind == .function && env.kindOf n == some .cell) then (n, NameKind.cell) else (n, k)).lookup x =
      (names.lookup x).map fun k => if (k == NameKind.free && env.scope.kind == .function && env.kindOf x == some .cell) then NameKind.cell else k
  | [], x => rfl
  | (n, k) :: r, x => by
    have ih := @lookup_relabel env r x
    show List.lookup x ((if (k == NameKind.free && env.scope.kind == .function && env.kindOf n == some .cell) = true then (n, NameKind.cell) else (n, k)) :: _) = _
    cases hx : x == n with
    | true =>
      have : x = n := by simpa using hx
      subst this
      by_cases hc : (k == NameKind.free && env.scope.kind == .function && env.kindOf x == some .cell) = true
      · rw [if_pos hc]; simp only [List.lookup_cons, hx]; rw [Option.map_some, if_pos hc]
      · rw [if_neg hc]; simp only [List.lookup_cons, hx]; rw [Option.map_some, if_neg hc]
    | false =>
      by_cases hc : (k == NameKind.free && env.scope.kind == .function && env.kindOf n == some .cell) = true
      · rw [if_pos hc]; simp only [List.lookup_cons, hx]; exact ih
      · rw [if_neg hc]; simp only [List.lookup_cons, hx]; exact ih
theorem kindAt_lookup {x : Str} : ∀ {names : List (Str × NameKind)}, kindAt x names = names.lookup x
  | [] => rfl
  | (y, k) :: r => by
    unfold kindAt
    rw [List.lookup_cons]
    cases h : strEq x y with
    | true => rw [(strEq_iff x y).mp h]; simp
    | false => rw [strEq_false h]; exact kindAt_lookup
theorem sameKindOf_iff {a b : NameKind} (h : sameKindOf a b = true) : a = b := by
  unfold sameKindOf at h
  split at h <;> first | rfl | cases h
theorem scopeOk_mem {names : List (Str × NameKind)} (h : scopeOk names = true) {p : Str × NameKind} (hp : p ∈ names) : names.lookup p.1 = some p.2 ∧ p.2 ≠ .cell := by
  have := List.all_eq_true.mp (Bool.and_eq_true_iff.mp h).1 p hp
  split at this
  · rename_i k hk
    have e := sameKindOf_iff this
    subst e
    rw [kindAt_lookup] at hk
    refine ⟨hk, fun e => ?_⟩
    rw [e] at this
    cases this
  · cases this
theorem scopeOk_nd {names : List (Str × NameKind)} (h : scopeOk names = true) : (names.map (·.1)).Nodup := by
  have key : ∀ {l : List Str}, distS l = true → l.Nodup := by
    intro l
    induction l with
    | nil => intro _; exact .nil
    | cons x l ih =>
      intro h
      have h' := Bool.and_eq_true_iff.mp h
      rw [List.nodup_cons]
      refine ⟨fun hx => ?_, ih h'.2⟩
      have h1 := h'.1
      rw [Bool.not_eq_true', List.any_eq_false] at h1
      exact h1 x hx ((strEq_iff x x).mpr rfl)
  exact key (Bool.and_eq_true_iff.mp h).2
theorem initOf_mem {outer : List (Str × NameKind)} : ∀ {names : List (Str × NameKind)} {ini : List (Option Nat)}, initOf outer names = some ini → (∀ x, (x, NameKind.free) ∈ names → kindAt x outer = some .cell) ∧
    ∀ (i : Nat) (x : Str) (kd : NameKind) (v : V) (ρ : Rho), names[i]? = some (x, kd) → (initR ρ ini)[i]? = some (some v) → ∃ j, slotAt x outer 0 = some j ∧ ρ[j]? = some (some v) ∧ kd = .free
  | [], ini, e => by
    cases e
    exact ⟨(fun _ h => nomatch h), fun i x kd v ρ h1 h2 => by cases h1⟩
  | (y, kd) :: names, ini, e => by
    have step : ∀ {l : List (Option Nat)} {a : Option Nat}, initOf outer names = some l → (∀ x v ρ, y = x → (initR ρ (a :: l))[0]? = some (some v) → ∃ j, slotAt x outer 0 = some j ∧ ρ[j]? = some (some v) ∧ kd = .free) → (kd = .free → kindAt y outer = some .cell) → 
        (∀ x, (x, NameKind.free) ∈ (y, kd) :: names → kindAt x outer = some .cell) ∧
        ∀ (i : Nat) (x : Str) (kd' : NameKind) (v : V) (ρ : Rho), ((y, kd) :: names)[i]? = some (x, kd') → (initR ρ (a :: l))[i]? = some (some v) → ∃ j, slotAt x outer 0 = some j ∧ ρ[j]? = some (some v) ∧ kd' = .free := by
      intro l a h1 h2 h3
      obtain ⟨i1, i2⟩ := initOf_mem h1
      refine ⟨fun x hx => ?_, fun i x kd' v ρ e1 e2 => ?_⟩
      · rcases List.mem_cons.mp hx with e | hx
        · cases e; exact h3 rfl
        · exact i1 x hx
      · cases i with
        | zero => cases e1; exact h2 _ v ρ rfl e2
        | succ i =>
          rw [List.getElem?_cons_succ] at e1
          refine i2 i x kd' v ρ e1 ?_
          cases a with
          | none => exact e2
          | some j => exact e2
    cases kd with
    | free =>
      unfold initOf at e
      split at e
      · rename_i hk
        split at e
        · rename_i j l hj hl
          cases e
          refine step hl (fun x v ρ hx e2 => ?_) (fun _ => hk)
          subst hx
          refine ⟨j, hj, ?_, rfl⟩
          have e2' : some (match ρ[j]? with | some v => v | none => none) = some (some v) := e2
          cases hq : ρ[j]? with
          | none => rw [hq] at e2'; cases e2'
          | some w => rw [hq] at e2'; exact e2'
        · cases e
      · cases e
    | cell => cases e
    | _ =>
      unfold initOf at e
      split at e
      · rename_i l hl
        cases e
        exact step hl (fun x v ρ hx e2 => by cases e2) (fun z => by cases z)
      · cases e

/-! the environment of a comprehension -/
structure CompOk (c : Cx) (sc : Scope) (cl : List (Str × Addr)) : Prop where
  kind : sc.kind = .function
  sok : scopeOk sc.names = true
  nd : (sc.names.map (·.1)).Nodup
  cl1 : ∀ x a, cl.lookup x = some a → c.env.cells.lookup x = some a
  cl2 : ∀ x, (x, NameKind.free) ∈ sc.names → ∃ a, cl.lookup x = some a
  cell : ∀ x, (x, NameKind.free) ∈ sc.names → c.env.kindOf x = some .cell
  ek : c.env.scope.kind = .function
variable {sc : Scope} {cl : List (Str × Addr)} {C : Addr}
theorem CompOk.kindOf (K : CompOk c sc cl) {x : Str} {kd : NameKind} (hp : (x, kd) ∈ sc.names) : (compEnvC sc cl C c.env).kindOf x = some (if kd = .free then .cell else kd) := by
  show (relabel sc c.env).names.lookup x = _
  unfold relabel
  rw [lookup_relabel, (scopeOk_mem K.sok hp).1, Option.map_some]
  by_cases hk : kd = .free
  · subst hk
    rw [if_pos rfl, if_pos]
    simp [K.ek, K.cell x hp]
  · rw [if_neg hk, if_neg]
    simp [hk]
theorem kindAt_mem {x : Str} {kd : NameKind} {names : List (Str × NameKind)} (h : kindAt x names = some kd) : (x, kd) ∈ names := by
  induction names with
  | nil => cases h
  | cons p r ih =>
    obtain ⟨y, k⟩ := p
    unfold kindAt at h
    split at h
    · rename_i hx
      cases h
      rw [(strEq_iff x y).mp hx]; exact .head _
    · exact .tail _ (ih h)
theorem CompOk.ceOk (K : CompOk c sc cl) (Ck : CeOk G ce c) (l : Led) : CeOk G { ce with names := sc.names } (c.on l (compEnvC sc cl C c.env)) where
  gl := Ck.gl
  glk := fun x hx => by
    unfold isGl at hx
    split at hx
    · rename_i hk
      have := K.kindOf (C := C) (kindAt_mem hk)
      rw [if_neg (by decide)] at this
      exact this
    · cases hx
  look := fun x i hi => by
    obtain ⟨d, kd, h1, h2, h3, h4⟩ := slotAt_get hi
    rw [Nat.zero_add] at h1
    subst h1
    exact ⟨kd, h2, h4⟩
  nd := K.nd
  loc := fun x hx => by
    have := K.kindOf (C := C) (kindAt_mem hx)
    rw [if_neg (by decide)] at this
    exact this
  cell := fun x hx => absurd rfl (scopeOk_mem K.sok (kindAt_mem hx)).2
theorem Ok.on {l : Led} {e : Env} (O : Ok G c) (h1 : e.scope.kind = .function) (h2 : e.globals = mainGlobals) (h3 : e.builtins = builtinsNs) : Ok G (c.on l e) := ⟨O.Kb, O.stay, O.K, O.T, O.below, O.frames, O.ff, O.fk, O.hh, h1, h2, h3, O.cells⟩
theorem CompOk.ok (K : CompOk c sc cl) (O : Ok G c) (l : Led) : Ok G (c.on l (compEnvC sc cl C c.env)) := O.on K.kind O.eg O.eb
theorem NsO.fun {o : Obj} {m m' : Str → Option Value} (a : NsO o m) (b : NsO o m') (x : Str) : m x = m' x := by
  obtain ⟨es, ep, h1, h2, h3⟩ := a
  obtain ⟨es', ep', h1', h2', h3'⟩ := b
  rw [h1] at h1'
  cases h1'
  rw [← h3, h3']
theorem ns_at {H : Heap} {C : Addr} {m : Str → Option Value} (h : H.Ns C m) : ∃ o, H.get? C = some o ∧ NsO o m := by
  obtain ⟨o, es, ep, a, b, d, e⟩ := h
  exact ⟨o, a, es, ep, b, d, e⟩

structure CX where
  o : Obj
  m : Str → Option Value
  ok : NsO o m
def famC (K : CompOk c sc cl) (O : Ok G c) (C : Addr) (l : Led) : Fam G { ce with names := sc.names } (compEnvC sc cl C c.env) where
  X := CX
  cx := fun x => c.on ((C, x.o) :: l) (compEnvC sc cl C c.env)
  hb := c.hb
  A := c.A
  hb_eq := fun _ => rfl
  A_eq := fun _ => rfl
  ok := fun x => K.ok O _
  store := fun x y i g h s u E Q hy S q => by
    obtain ⟨kd, h1, h2⟩ := storeSlot_get hy
    have hl : kindAt y sc.names = some .local := by
      rcases h2 with h2 | h2
      · exact h2
      · exact absurd rfl (scopeOk_mem K.sok (kindAt_mem h2)).2
    have hk : (compEnvC sc cl C c.env).kindOf y = some .local := by
      have := K.kindOf (C := C) (kindAt_mem hl)
      rw [if_neg (by decide)] at this
      exact this
    have S' : Sim G ((c.on l (compEnvC sc cl C c.env)).with (C, x.o)) g h s.heap := S
    obtain ⟨es, ep, e1, e2, e3⟩ := x.ok
    refine wpAny_storeName_local hk (m := x.m) ⟨x.o, es, ep, S'.privAt, e1, e2, e3⟩ (fun h' hn hs => ?_) (by show ((relabel sc c.env).kind == _ || ((relabel sc c.env).kind == _ && _)) = false; rw [show (relabel sc c.env).kind = .function from K.kind]; rfl)
    obtain ⟨o', ho', hn'⟩ := ns_at hn
    refine q ⟨o', _, hn'⟩ { s with heap := h', toks := s.toks + 1 } (S'.privSet hs ho') ⟨rfl, rfl⟩ (fun z w hz hv => ?_) ?_
    · rcases hv with hv | ⟨b1, o₁, m₁, b2, b3, b4⟩ | hv
      · exact .inl hv
      · refine .inr (.inl ⟨b1, o', _, .head _, hn', ?_⟩)
        rw [if_neg hz]
        have b2' : (C, o₁) ∈ (C, x.o) :: (l ++ c.pri) := b2
        have : o₁ = x.o := by
          rcases List.mem_cons.mp b2' with e | hm
          · cases e; rfl
          · have i1 := S.here (p := (C, o₁)) (S.inPri b2)
            have i2 := S'.privAt
            exact Option.some.inj (i1.symm.trans i2)
        subst this
        rw [NsO.fun x.ok b3]; exact b4
      · exact .inr (.inr hv)
    · exact .inr (.inl ⟨hk, o', _, .head _, hn', if_pos rfl⟩)
end Mine
end
section
open PySem PySem.W PyProof.Rows PySem.Calls PySem.SeqAt
set_option linter.unusedVariables false
namespace Mine
variable {G : Gl} {α β : Type} {c : Cx} {g : Gh} {s : Shared} {h h' h₁ h₂ : List O}
variable {T : Tab} {r : Rec} {n k : Nat} {ce : CE} {ρ ρ' : Rho} {v : V}
variable {sc : Scope} {cl : List (Str × Addr)} {C : Addr}

theorem Hyp.on (H : Hyp G T r n c ce) {l : Led} {e : Env} {ce' : CE} (O : Ok G (c.on l e)) (Ck : CeOk G ce' (c.on l e)) : Hyp G T r n (c.on l e) ce' := ⟨H.IH, O, H.Rm, Ck, H.CK⟩

/-- the tests of a comprehension -/
theorem ifs_ok (H : Hyp G T r n c ce) : ∀ {ifs : List PySem.Expr} {h h' : List O} {b : Bool}, ifsAll r ρ (ifs.map (cE k ce)) h = some (b, h') → ∀ g s, Sim G c g h s.heap → Vars G c g ce.names ρ →
    Ev G c (forIn (m := Sem) ifs true fun x r => if r = true then do let ok ← isTrue x c.env (eval x c.env); pure (ForInStep.yield ok) else pure (ForInStep.yield r)) g s h' (fun _ b' => b' = b)
  | [], h, h', b, e => by
    intro g s S Vs
    cases e
    exact Ev.pure S rfl
  | x :: xs, h, h', b, e => by
    intro g s S Vs E Q kk
    rw [List.map_cons] at e
    unfold ifsAll at e
    rw [List.forIn_cons]
    simp only [if_true]
    split at e
    · rename_i h1 e1
      refine wpAny_bind (wpAny_bind (ts_ok H e1 g s S Vs _ rfl E _ fun b' s₁ g₁ S₁ l₁ q₁ p₁ => wpAny_pure ?_))
      subst p₁
      exact ifs_ok H e g₁ s₁ S₁ (Vs.le l₁) E _ fun b s₂ g₂ S₂ l₂ q₂ p₂ => kk _ _ _ S₂ (l₁.trans l₂) (q₁.trans q₂) p₂
    · rename_i h1 e1
      cases xs with
      | cons _ _ => cases e
      | nil =>
        cases e
        refine wpAny_bind (wpAny_bind (ts_ok H e1 g s S Vs _ rfl E _ fun b' s₁ g₁ S₁ l₁ q₁ p₁ => wpAny_pure ?_))
        subst p₁
        exact wpAny_pure (kk _ _ _ S₁ l₁ q₁ rfl)
    · cases e

theorem Var.env0 {l : Led} {e : Env} {x : Str} {u : Value} (K : CompOk c sc cl) (e0 : e = compEnvC sc cl C c.env) (hx : (x, NameKind.free) ∈ sc.names) (hv : Var c x u) : Var (c.on l e) x u := by
  subst e0
  have hc := K.cell x hx
  have hk := K.kindOf (C := C) hx
  rw [if_pos rfl] at hk
  rcases hv with ⟨a, _⟩ | ⟨a, _⟩ | ⟨_, a, o, b1, b2, b3⟩
  · rw [hc] at a; cases a
  · rw [hc] at a; cases a
  · obtain ⟨a', ha'⟩ := K.cl2 x hx
    have := K.cl1 x a' ha'
    rw [b1] at this
    cases this
    exact .inr (.inr ⟨hk, a, o, ha', b2, b3⟩)
theorem Vars.init {l : Led} {ini : List (Option Nat)} (K : CompOk c sc cl) (Ck : CeOk G ce c) (hi : initOf ce.names sc.names = some ini) (Vs : Vars G c g ce.names ρ) : Vars G (c.on l (compEnvC sc cl C c.env)) g sc.names (initR ρ ini) := by
  intro i x kd v h1 h2 h3
  obtain ⟨j, h4, h5, h6⟩ := (initOf_mem hi).2 i x kd v ρ h1 h3
  subst h6
  obtain ⟨d, kd', e1, e2, e3, e4⟩ := slotAt_get h4
  rw [Nat.zero_add] at e1
  subst e1
  obtain ⟨u, k1, k2⟩ := Vs j x kd' v e2 e4 h5
  exact ⟨u, Var.env0 K rfl (List.mem_of_getElem? h1) k1, k2⟩
theorem Vars.relist {l l' : Led} {e : Env} {names : List (Str × NameKind)} (hl : ∀ p ∈ l, p ∈ l') (Vs : Vars G (c.on l e) g names ρ) : Vars G (c.on l' e) g names ρ := by
  intro i x kd v h1 h2 h3
  obtain ⟨u, k1, k2⟩ := Vs i x kd v h1 h2 h3
  refine ⟨u, ?_, k2⟩
  rcases k1 with k1 | ⟨a, o, m', b, d⟩ | k1
  · exact .inl k1
  · refine .inr (.inl ⟨a, o, m', ?_, d⟩)
    have b' : (_, o) ∈ l ++ c.pri := b
    show _ ∈ l' ++ c.pri
    rcases List.mem_append.mp b' with q | q
    · exact List.mem_append_left _ (hl _ q)
    · exact List.mem_append_right _ q
  · exact .inr (.inr k1)

structure CompSt (G : Gl) (c : Cx) (sc : Scope) (cl : List (Str × Addr)) (C D I : Addr) (r : Rec) (k : Nat) (ce : CE) (elt : PySem.Expr) (tg : Tgt) (ifs : List PySem.Expr) (src : Srcs) (total : List V) (h₂ : List O) (f₀ : Nat) (g₀ : Gh) (s₀ : Shared) (f : Nat) (s : Shared) : Prop where
  intro ::
  is : ∃ i ρ h g oI oC m ys nn done xs, compS r (cE k { ce with names := sc.names } elt) tg (ifs.map (cE k { ce with names := sc.names })) src f i ρ h = some (xs, h₂) ∧
    Sim G (c.on [(I, oI), (C, oC), (D, listOf ys nn)] (compEnvC sc cl C c.env)) g h s.heap ∧ g₀.le g ∧ Same s₀ s ∧ NsO oC m ∧ ItO G c g src i oI ∧
    Vars G (c.on [(I, oI), (C, oC), (D, listOf ys nn)] (compEnvC sc cl C c.env)) g sc.names ρ ∧ VVs G c g done ys.toList ∧ done ++ xs = total ∧ ys.size ≤ i ∧ i + f = f₀

theorem VVs.snoc {l : List V} {us : List Value} {u : Value} (x : VVs G c g l us) (y : VV G c g v u) : VVs G c g (l ++ [v]) (us ++ [u]) := by
  induction l generalizing us with
  | nil => cases x; exact .cons y .nil
  | cons v l ih => cases x with | cons p q => exact .cons p (ih q)

theorem comp_loop (H : Hyp G T r n c ce) (K : CompOk c sc cl) {elt iter t : PySem.Expr} {tg : Tgt} {ifs : List PySem.Expr} {pos : Pos} {src : Srcs} {total : List V} {D I : Addr} {f₀ f : Nat} {g₀ : Gh} {R : Result → Shared → Prop}
    (ht : tgtOf { ce with names := sc.names } t = some tg) (hf : f₀ ≤ lim + 1) (hs : CompSt G c sc cl C D I r k ce elt tg ifs src total h₂ f₀ g₀ s f s)
    (q : ∀ s' g' oC m ys nn, Sim G (c.on [(C, oC), (D, listOf ys nn)] (compEnvC sc cl C c.env)) g' h₂ s'.heap → g₀.le g' → Same s s' → NsO oC m → VVs G c g' total ys.toList → R (.ok .next) s') :
    codeAny (model G.prog G.w) c.A (.compLoop (.ListComp elt [⟨t, iter, ifs, 0⟩] sc pos) 0 (.ref I) (.ref D) (compEnvC sc cl C c.env)) R s := by
  refine codeAny_loop rfl (CompSt G c sc cl C D I r k ce elt tg ifs src total h₂ f₀ g₀ s) (fun f s₁ hI => ?_) f hs
  show wpAny _ _ ((compTurn (.ListComp elt [⟨t, iter, ifs, 0⟩] sc pos) 0 (.ref I) (.ref D) (compEnvC sc cl C c.env)).onRaise (fun x => do noteFrame x (compEnvC sc cl C c.env); theTreesLotGoes x)) _ _ s₁
  refine wpAny_noted ?_
  rw [compTurn_list]
  obtain ⟨i, ρ, h, g, oI, oC, m, ys, nn, done, xs, e, S, lg, sm, hno, it, Vs, rvs, hd, hy, hif⟩ := hI.is
  cases f with
  | zero => cases e
  | succ f =>
    unfold compS at e
    split at e
    · cases e
    · rename_i hnx
      cases e
      refine wpAny_bind (wpAny_standAt (wpAny_bind (next_ok (c := c.on [(C, oC), (D, listOf ys nn)] (compEnvC sc cl C c.env)) (K.ok H.ok _) S it.on hnx (fun s₂ _ S₂ q₂ => wpAny_pure ?_) fun v u oI' s' hv => by cases hv)))
      rw [List.append_nil] at hd
      subst hd
      exact q s₂ g oC m ys nn S₂ lg (sm.trans q₂) hno rvs
    · rename_i v hnx
      refine wpAny_bind (wpAny_standAt (wpAny_bind (next_ok (c := c.on [(C, oC), (D, listOf ys nn)] (compEnvC sc cl C c.env)) (K.ok H.ok _) S it.on hnx (fun s₂ z => by cases z) fun v' u oI' s₂ hv rv S₂ q₂ it₂' => ?_)))
      cases hv
      have it₂ := it₂' g it.on
      split at e
      · cases e
      · rename_i ρ₂ hb
        have S₃ : Sim G (c.on ((C, oC) :: [(D, listOf ys nn), (I, oI')]) (compEnvC sc cl C c.env)) g h s₂.heap := Sim.onPerm (l := [(I, oI'), (C, oC), (D, listOf ys nn)]) (by
          exact (List.perm_append_comm (l₁ := [(I, oI')]) (l₂ := [(C, oC), (D, listOf ys nn)]))) S₂
        have Vs₂ : Vars G (c.on ((C, oC) :: [(D, listOf ys nn), (I, oI')]) (compEnvC sc cl C c.env)) g sc.names ρ := by
          intro j x kd w a1 a2 a3
          obtain ⟨u', k1, k2⟩ := Vs j x kd w a1 a2 a3
          refine ⟨u', ?_, k2⟩
          rcases k1 with k1 | ⟨b1, o, m', b2, b3, b4⟩ | k1
          · exact .inl k1
          · refine .inr (.inl ⟨b1, o, m', ?_, b3, b4⟩)
            have b2' : ((compEnvC sc cl C c.env).locals, o) ∈ [(I, oI), (C, oC), (D, listOf ys nn)] ++ c.pri := b2
            show ((compEnvC sc cl C c.env).locals, o) ∈ [(C, oC), (D, listOf ys nn), (I, oI')] ++ c.pri
            rcases List.mem_append.mp b2' with z | z
            · simp only [List.mem_cons, List.not_mem_nil, or_false] at z
              rcases z with z | z | z
              · have hIC : I = C := (congrArg Prod.fst z).symm
                have nd := S.nd
                unfold ledOf Cx.on at nd
                rw [List.map_append, List.nodup_append] at nd
                have nd2 := nd.2.1
                simp only [List.cons_append, List.map_cons, List.nodup_cons, List.mem_cons] at nd2
                exact absurd (Or.inl hIC) nd2.1
              · rw [z]; exact List.mem_append_left _ (.head _)
              · rw [z]; exact List.mem_append_left _ (.tail _ (.head _))
            · exact List.mem_append_right _ z
          · exact .inr (.inr k1)
        refine wpAny_bind (go_ok (c := c) S₂.privAt (it₂.off) ?_)
        refine wpAny_bind (tgt_ok (famC K H.ok C [(D, listOf ys nn), (I, oI')]) K.nd (x := ⟨oC, m, hno⟩) ht hb rv S₃ Vs₂ fun x' s₃ S₄ q₃ Vs₃ => ?_)
        obtain ⟨oC', m', hno'⟩ := x'
        have O' : Ok G (c.on ((C, oC') :: [(D, listOf ys nn), (I, oI')]) (compEnvC sc cl C c.env)) := K.ok H.ok _
        have H' : Hyp G T r n (c.on ((C, oC') :: [(D, listOf ys nn), (I, oI')]) (compEnvC sc cl C c.env)) { ce with names := sc.names } := H.on O' (K.ceOk H.Ck _)
        split at e
        · cases e
        · rename_i h1 e1
          refine wpAny_bind (ifs_ok H' e1 g s₃ S₄ Vs₃ _ _ fun b s₄ g₄ S₅ l₄ q₄ p₄ => ?_)
          subst p₄
          simp only [Bool.false_eq_true, if_false]
          refine wpAny_pure ⟨rfl, f, Nat.lt_succ_self _, ⟨i + 1, ρ₂, h1, g₄, oI', oC', m', ys, nn, done, xs, e, ?_, lg.trans l₄, ((sm.trans q₂).trans q₃).trans q₄, hno', (it₂.off).le l₄, ?_, rvs.le l₄, hd, by omega, by omega⟩⟩
          · exact Sim.onPerm (l := (C, oC') :: [(D, listOf ys nn), (I, oI')]) (List.perm_append_comm (l₁ := [(C, oC'), (D, listOf ys nn)]) (l₂ := [(I, oI')])) S₅
          · exact (Vs₃.le l₄).relist (fun p hp => by simp only [List.mem_cons, List.not_mem_nil, or_false] at hp ⊢; grind)
        · rename_i h1 e1
          refine wpAny_bind (ifs_ok H' e1 g s₃ S₄ Vs₃ _ _ fun b s₄ g₄ S₅ l₄ q₄ p₄ => ?_)
          subst p₄
          simp only [if_true]
          split at e
          · cases e
          · rename_i y h3 e3
            split at e
            · rename_i xs' h4 e4
              cases e
              refine wpAny_bind (wpAny_bind (H'.ev e3 g₄ s₄ S₅ (Vs₃.le l₄) _ _ fun u' s₅ g₅ S₆ l₅ q₅ p₅ => ?_))
              have S₇ : Sim G ((c.on [(I, oI'), (C, oC')] (compEnvC sc cl C c.env)).with (D, listOf ys nn)) g₅ h3 s₅.heap := Sim.onPerm (l := (C, oC') :: [(D, listOf ys nn), (I, oI')]) (l' := [(D, listOf ys nn), (I, oI'), (C, oC')]) (List.perm_append_comm (l₁ := [(C, oC')]) (l₂ := [(D, listOf ys nn), (I, oI')])) S₆
              refine wpAny_bind (wpAny_list_append_plain ⟨nn, S₇.privAt⟩ (fun h' hl hs => wpAny_pure (wpAny_pure ?_)) (by rw [sizeLine_eq]; unfold lim at hf; omega))
              obtain ⟨nn', hg⟩ := hl
              have S₈ := S₇.privSet hs hg
              refine ⟨rfl, f, Nat.lt_succ_self _, ⟨i + 1, ρ₂, h3, g₅, oI', oC', m', ys.push u', nn', done ++ [y], xs', e4, ?_, (lg.trans l₄).trans l₅, (((sm.trans q₂).trans q₃).trans q₄).trans ⟨q₅.os, q₅.gens⟩, hno', (it₂.off).le (l₄.trans l₅), ?_, ?_, ?_, ?_, by omega⟩⟩
              · exact Sim.onPerm (l := [(D, listOf (ys.push u') nn'), (I, oI'), (C, oC')]) (List.perm_append_comm (l₁ := [(D, listOf (ys.push u') nn')]) (l₂ := [(I, oI'), (C, oC')])) S₈
              · intro j x kd w a1 a2 a3
                obtain ⟨u'', k1, k2⟩ := (Vs₃.le (l₄.trans l₅)) j x kd w a1 a2 a3
                refine ⟨u'', ?_, k2⟩
                rcases k1 with k1 | ⟨b1, o, m'', b2, b3, b4⟩ | k1
                · exact .inl k1
                · refine .inr (.inl ⟨b1, o, m'', ?_, b3, b4⟩)
                  have b2' : ((compEnvC sc cl C c.env).locals, o) ∈ [(C, oC'), (D, listOf ys nn), (I, oI')] ++ c.pri := b2
                  show ((compEnvC sc cl C c.env).locals, o) ∈ [(I, oI'), (C, oC'), (D, listOf (ys.push u') nn')] ++ c.pri
                  rcases List.mem_append.mp b2' with z | z
                  · simp only [List.mem_cons, List.not_mem_nil, or_false] at z
                    rcases z with z | z | z
                    · rw [z]; exact List.mem_append_left _ (.tail _ (.head _))
                    · have hDC : C = D := congrArg Prod.fst z
                      have nd := S₆.nd
                      unfold ledOf Cx.on at nd
                      rw [List.map_append, List.nodup_append] at nd
                      have nd2 := nd.2.1
                      simp only [List.cons_append, List.map_cons, List.nodup_cons, List.mem_cons] at nd2
                      exact absurd (Or.inl hDC) nd2.1
                    · rw [z]; exact List.mem_append_left _ (.head _)
                  · exact List.mem_append_right _ z
                · exact .inr (.inr k1)
              · rw [Array.toList_push]; exact (rvs.le (l₄.trans l₅)).snoc p₅
              · rw [← hd, List.append_assoc]; rfl
              · rw [Array.size_push]; omega
            · cases e
end Mine
end
section
open PySem PySem.W PyProof.Rows PySem.Calls PySem.SeqAt
set_option linter.unusedVariables false
namespace Mine
variable {G : Gl} {α β : Type} {c : Cx} {g : Gh} {s : Shared} {h h' h₁ h₂ : List O}
variable {T : Tab} {r : Rec} {n k : Nat} {ce : CE} {ρ ρ' : Rho} {v : V}
variable {sc : Scope} {cl : List (Str × Addr)} {C : Addr}

theorem notSet (H : Hyp G T r n c ce) {x : PySem.Expr} {z : V × List O} (e : r.ev (cE k ce x) ρ h = some z) (env : Env) (u : Value) : foldedSetIterable x env u = pure u := by
  cases x <;> try rfl
  exfalso
  have : ∀ {a b d}, cE k ce (.Set a b d) = .fail := by intro a b d; cases k <;> rfl
  rw [this, H.IH.fail] at e
  cases e

/-- the list that was filled -/
theorem listDone {D : Addr} {ys : Array Value} {nn : Nat} {vs : List V} {mu : Bool} (S : Sim G (c.with (D, listOf ys nn)) g h s.heap) (rvs : VVs G c g vs ys.toList) (hm : mkList mu vs h = some (v, h')) :
    ∃ g', Sim G c g' h' s.heap ∧ g.le g' ∧ VV G c g' v (.ref D) := by
  obtain ⟨S₂, N₂, ap⟩ := S.unpriv
  unfold mkList at hm
  split at hm
  · rename_i xs e
    split at hm
    · cases hm
      have rd : RDs (kn c g) xs ys.toList := rvs.toD e
      exact ⟨_, S₂.pushN S₂.fr N₂ ap (.list (l := xs) (vs := ys.toList) rd), Gh.le_push _ _ _, .loc (by rw [← S₂.la]; simp)⟩
    · cases hm
      refine ⟨_, S₂.freezeN S₂.fr N₂ ap, Gh.le_freeze _ _, ?_⟩
      have p₂ : VVs G c ⟨g.as, (D, listOf ys nn) :: g.Z, g.mu⟩ vs ys.toList := rvs.le (Gh.le_freeze _ _)
      exact .d (.list (.inr (.head _)) rfl rfl (p₂.toD e))
  · split at hm
    · cases hm
    · cases hm
      refine ⟨_, S₂.freezeN S₂.fr N₂ ap, Gh.le_freeze _ _, ?_⟩
      have p₂ : VVs G c ⟨g.as, (D, listOf ys nn) :: g.Z, g.mu⟩ vs ys.toList := rvs.le (Gh.le_freeze _ _)
      exact .lstv (.inr (.head _)) rfl rfl p₂

theorem comp_core (H : Hyp G T r n c ce) (K : CompOk c sc cl) {elt iter t : PySem.Expr} {tg : Tgt} {ifs : List PySem.Expr} {ini : List (Option Nat)} {pos : Pos} {src : Srcs} {total : List V} {f : Nat} {u : Value} {RR : Value → Addr → Result → Shared → Prop} {E : Value → Shared → Prop}
    (ht : tgtOf { ce with names := sc.names } t = some tg) (hi : initOf ce.names sc.names = some ini) (es : srcOf h v = some (src, f)) (rv : VV G c g v u) (S : Sim G c g h s.heap) (Vs : Vars G c g ce.names ρ)
    (e : compS r (cE k { ce with names := sc.names } elt) tg (ifs.map (cE k { ce with names := sc.names })) src f 0 (initR ρ ini) h = some (total, h₂))
    (q : ∀ D C s' g' oC m ys nn, Sim G (c.on [(C, oC), (D, listOf ys nn)] c.env) g' h₂ s'.heap → g.le g' → Same s s' → NsO oC m → VVs G c g' total ys.toList → RR (.ref D) C (.ok .next) s') :
    wpAny (model G.prog G.w) c.A (pyIter u) (fun it s₂ => wpAny (model G.prog G.w) c.A (newList []) (fun acc s₃ => wpAny (model G.prog G.w) c.A (newFunctionEnv sc c.env.globals cl [] c.env.qual none .none (some c.env)) (fun cenv s₄ =>
      codeAny (model G.prog G.w) c.A (.compStart (.ListComp elt [⟨t, iter, ifs, 0⟩] sc pos) 0 it acc { cenv with scope := relabel sc c.env }) (RR acc cenv.locals) s₄) E s₃) E s₂) E s := by
  refine iter_ok H.ok S rv es fun oI s₁ S₁ q₁ it₁ hf => ?_
  have S₂ := S₁.privPush (o := listOf ([] : List Value).toArray 0) rfl
  have hcell : ∀ x ∈ sc.names, x.2 ≠ .cell := fun x hx => (scopeOk_mem K.sok hx).2
  refine wpAny_newObj_type (wpAny_newFunctionEnv hcell (by intro y hy; simp at hy) (fun h₂' hns hsb => ?_) K.kind)
  dsimp only at hns hsb ⊢
  have S₃ := Sim.privPush (s := { s₁ with heap := s₁.heap.push (listOf ([] : List Value).toArray 0) }) S₂ (o := { cls := .type "dict", data := .dict #[] }) rfl
  obtain ⟨oC, hoC, hno⟩ := ns_at hns
  have S₄ := Sim.privSet (s := { s₁ with heap := (s₁.heap.push (listOf ([] : List Value).toArray 0)).push { cls := .type "dict", data := .dict #[] } }) S₃ hsb hoC
  let I := s.heap.objs.size
  let D := s₁.heap.objs.size
  let C := (s₁.heap.push (listOf ([] : List Value).toArray 0)).objs.size
  have S₅ : Sim G (c.on [(I, oI), (C, oC), (D, listOf ([] : List Value).toArray 0)] (compEnvC sc cl C c.env)) g h h₂' :=
    Sim.onPerm (c := c) (l := [(C, oC), (D, listOf ([] : List Value).toArray 0), (I, oI)]) (e := c.env) (List.perm_append_comm (l₁ := [(C, oC), (D, listOf ([] : List Value).toArray 0)]) (l₂ := [(I, oI)])) S₄
  have loop : ∀ s₃ : Shared, s₃ = { s₁ with heap := h₂', toks := s₁.toks + ([] : List (Str × Value)).length } →
      codeAny (model G.prog G.w) c.A (.compLoop (.ListComp elt [⟨t, iter, ifs, 0⟩] sc pos) 0 (.ref I) (.ref D) (compEnvC sc cl C c.env)) (RR (.ref D) C) s₃ := by
    rintro s₃ rfl
    refine comp_loop H K ht hf (g₀ := g) (f := f) ⟨0, initR ρ ini, h, g, oI, oC, _, #[], 0, [], total, e, S₅, .refl _, .refl _, hno, it₁, ?_, .nil, rfl, Nat.le_refl _, Nat.zero_add _⟩ fun s' g' oC' m' ys nn S' l' q' no' rvs => ?_
    · exact Vars.init K H.Ck hi Vs
    · exact q D C s' g' oC' m' ys nn S'.onEnv l' (q₁.trans ⟨q'.os, q'.gens⟩) no' rvs
  refine codeAny_compStart_list (loop _ rfl) ?_
  have hI : h₂'.get? I = some oI := (S₅.news (I, oI) (by unfold ledOf Cx.on; simp)).1
  exact iter_self (c := c) (s := { s₁ with heap := h₂', toks := s₁.toks + ([] : List (Str × Value)).length }) hI it₁ (loop _ rfl)

theorem comp_ok (H : Hyp G T r n c ce) (hs : fnKind sc = true) (sok : scopeOk sc.names = true) {ini : List (Option Nat)} (hi : initOf ce.names sc.names = some ini) : ∃ cl, closureFor sc c.env = pure cl ∧ CompOk c sc cl := by
  have hc : ∀ x, (x, NameKind.free) ∈ sc.names → c.env.kindOf x = some .cell ∧ ∃ a, c.env.cells.lookup x = some a := fun x hx => H.Ck.cell x ((initOf_mem hi).1 x hx)
  obtain ⟨cl, h1, h2, h3⟩ := closure_ok (env := c.env) (scope := sc) fun x hx => (hc x hx).2
  refine ⟨cl, h1, ?_, sok, scopeOk_nd sok, h2, h3, fun x hx => (hc x hx).1, H.ok.ek⟩
  unfold fnKind at hs
  split at hs
  · assumption
  · cases hs

structure CompParts (ce : CE) (sc : Scope) (t : PySem.Expr) (tg : Tgt) (ini : List (Option Nat)) : Prop where
  ht : tgtOf { ce with names := sc.names } t = some tg
  hi : initOf ce.names sc.names = some ini
  hk : fnKind sc = true
  sok : scopeOk sc.names = true
theorem comp_split (H : Hyp G T r n c ce) {elt iter t : PySem.Expr} {ifs : List PySem.Expr} {pos : Pos} (e : stepEv T r (cE (k + 1) ce (.ListComp elt [⟨t, iter, ifs, 0⟩] sc pos)) ρ h = some (v, h')) :
    ∃ tg ini v₁ h₁ src f total h₂ mu, CompParts ce sc t tg ini ∧ r.ev (cE k ce iter) ρ h = some (v₁, h₁) ∧ srcOf h₁ v₁ = some (src, f) ∧
      compS r (cE k { ce with names := sc.names } elt) tg (ifs.map (cE k { ce with names := sc.names })) src f 0 (initR ρ ini) h₁ = some (total, h₂) ∧ mkList mu total h₂ = some (v, h') := by
  have eq : cE (k + 1) ce (.ListComp elt [⟨t, iter, ifs, 0⟩] sc pos) = (match tgtOf { ce with names := sc.names } t, initOf ce.names sc.names, fnKind sc && scopeOk sc.names with
      | some t, some ini, true => .comp (atPos pos ce.muts) (cE k { ce with names := sc.names } elt) t (cE k ce iter) (ifs.map (cE k { ce with names := sc.names })) ini
      | _, _, _ => .fail) := rfl
  rw [eq] at e
  split at e
  · rename_i tg ini h1 h2 h3
    have h3' := Bool.and_eq_true_iff.mp h3
    unfold stepEv at e
    dsimp only at e
    split at e
    · cases e
    · rename_i v₁ h₁ e1
      split at e
      · cases e
      · rename_i src f e2
        split at e
        · cases e
        · rename_i xs h₂ e3
          exact ⟨tg, ini, v₁, h₁, src, f, xs, h₂, _, ⟨h1, h2, h3'.1, h3'.2⟩, e1, e2, e3, e⟩
  · cases e

theorem ev_comp (H : Hyp G T r n c ce) {elt iter t : PySem.Expr} {ifs : List PySem.Expr} {pos : Pos} (e : stepEv T r (cE (k + 1) ce (.ListComp elt [⟨t, iter, ifs, 0⟩] sc pos)) ρ h = some (v, h')) : EvX G c ce.names (.ListComp elt [⟨t, iter, ifs, 0⟩] sc pos) ρ h v h' := by
  intro g s S Vs E Q q
  obtain ⟨tg, ini, v₁, h₁, src, f, total, h₂, mu, P, e1, e2, e3, e4⟩ := comp_split H e
  obtain ⟨cl, hcl, K⟩ := comp_ok H P.hk P.sok P.hi
  rw [eval_ListComp]
  refine wpAny_comprehension_free (use := none) rfl (fun u => notSet H e1 _ u) hcl K.kind (fun x hx hl => hl ▸ (scopeOk_mem K.sok hx).1) ?_
  refine H.ev e1 g s S Vs E _ fun u s₁ g₁ S₁ l₁ q₁ p₁ => ?_
  refine comp_core H K P.ht P.hi e2 p₁ S₁ (Vs.le l₁) e3 fun D C s' g' oC m ys nn S' l' q' no rvs => ?_
  have S'' : Sim G ((c.on [(D, listOf ys nn)] c.env).with (C, oC)) g' h₂ s'.heap := S'
  obtain ⟨es, ep, d1, d2, d3⟩ := no
  refine ⟨m, ⟨oC, es, ep, S''.privAt, d1, d2, d3⟩, fun h'' hs => ?_⟩
  have S₃ : Sim G ((c.on [] c.env).with (D, listOf ys nn)) g' h₂ h'' := S''.privDrop hs.extBut
  obtain ⟨g'', S₄, l₄, rv⟩ := listDone (s := { s' with heap := h'' }) (c := c.on [] c.env) S₃ rvs e4
  exact q _ { s' with heap := h'' } g'' S₄.off0 ((l₁.trans l').trans l₄) ((q₁.trans q').trans ⟨rfl, rfl⟩) rv
end Mine
end
section
open PySem PySem.W PyProof.Rows PySem.Calls PySem.SeqAt
set_option linter.unusedVariables false
namespace Mine
variable {G : Gl} {α β : Type} {c : Cx} {g : Gh} {s : Shared} {h h' h₁ h₂ : List O}
variable {T : Tab} {r : Rec} {n k : Nat} {ce : CE} {ρ ρ' : Rho} {v : V}
variable {sc : Scope} {cl : List (Str × Addr)} {C : Addr}

structure DcSt (G : Gl) (c : Cx) (sc : Scope) (cl : List (Str × Addr)) (C D I a : Addr) (kvs : List (Int × Value)) (ep : Nat) (r : Rec) (k : Nat) (ce : CE) (ke ve : PySem.Expr) (tg : Nat) (ifs : List PySem.Expr) (total : List (Int × PyData)) (h₂ : List O) (g₀ : Gh) (s₀ : Shared) (f : Nat) (s : Shared) : Prop where
  intro ::
  is : ∃ i ρ h g oI oC oD m acc kv, dcompL r (cE k { ce with names := sc.names } ke) (cE k { ce with names := sc.names } ve) tg (ifs.map (cE k { ce with names := sc.names })) ((kvs.map (·.1)).drop i) ρ h acc = some (total, h₂) ∧
    Sim G (c.on [(I, oI), (C, oC), (D, oD)] (compEnvC sc cl C c.env)) g h s.heap ∧ g₀.le g ∧ Same s₀ s ∧ NsO oC m ∧ (oI.cls = .type "dict_keyiterator" ∧ oI.data = .fields #[.ref a, .int (i : Nat) 0, .int (kvs.length : Nat) 0, .int (ep : Nat) 0]) ∧
    Vars G (c.on [(I, oI), (C, oC), (D, oD)] (compEnvC sc cl C c.env)) g sc.names ρ ∧ oD.IsDictOf (intKind G.prog G.w) kv ∧ PD (RD (kn c g)) acc kv ∧ i + f = kvs.length

theorem key_int {key : Int} {u : Value} (h : (intKind G.prog G.w).is key u = true) : ∃ t, u = .int key t := by
  simp only [intKind] at h
  cases u <;> simp [Value.isInt] at h
  subst h
  exact ⟨_, rfl⟩
theorem Vars.swapFirst {I C D : Addr} {oI oI' oC oD oD' : Obj} {e : Env} {names : List (Str × NameKind)} (hIC : I ≠ C) (hDC : D ≠ C) (he : e.locals = C) (Vs : Vars G (c.on [(I, oI), (C, oC), (D, oD)] e) g names ρ) : Vars G (c.on [(I, oI'), (C, oC), (D, oD')] e) g names ρ := by
  intro j x kd w a1 a2 a3
  obtain ⟨u', k1, k2⟩ := Vs j x kd w a1 a2 a3
  refine ⟨u', ?_, k2⟩
  rcases k1 with k1 | ⟨b1, o, m', b2, b3, b4⟩ | k1
  · exact .inl k1
  · refine .inr (.inl ⟨b1, o, m', ?_, b3, b4⟩)
    have b2' : (e.locals, o) ∈ [(I, oI), (C, oC), (D, oD)] ++ c.pri := b2
    show (e.locals, o) ∈ [(I, oI'), (C, oC), (D, oD')] ++ c.pri
    rcases List.mem_append.mp b2' with z | z
    · simp only [List.mem_cons, List.not_mem_nil, or_false] at z
      rcases z with z | z | z
      · exact absurd ((congrArg Prod.fst z).symm.trans he) hIC
      · rw [z]; exact List.mem_append_left _ (.tail _ (.head _))
      · exact absurd ((congrArg Prod.fst z).symm.trans he) hDC
    · exact List.mem_append_right _ z
  · exact .inr (.inr k1)
theorem Sim.apart3 {H : Heap} {I C D : Addr} {oI oC oD : Obj} {e : Env} (S : Sim G (c.on [(I, oI), (C, oC), (D, oD)] e) g h H) : I ≠ C ∧ D ≠ C := by
  have nd := S.nd
  unfold ledOf Cx.on at nd
  rw [List.map_append, List.nodup_append] at nd
  have nd2 := nd.2.1
  simp only [List.cons_append, List.map_cons, List.nodup_cons, List.mem_cons] at nd2
  exact ⟨fun z => nd2.1 (.inl z), fun z => nd2.2.1 (.inl z.symm)⟩

theorem dcomp_loop (H : Hyp G T r n c ce) (K : CompOk c sc cl) {ke ve iter : PySem.Expr} {x : Str} {px : Pos} {tg : Nat} {ifs : List PySem.Expr} {pos : Pos} {total : List (Int × PyData)} {D I a : Addr} {oa : Obj} {kvs : List (Int × Value)} {ep f : Nat} {g₀ : Gh} {R : Result → Shared → Prop}
    (ht : storeSlot { ce with names := sc.names } x = some tg) (hka : kn c g₀ a oa) (hda : ∀ H' : Heap, H'.get? a = some oa → H'.DictAt (intKind G.prog G.w) a kvs ep) (hs : DcSt G c sc cl C D I a kvs ep r k ce ke ve tg ifs total h₂ g₀ s f s)
    (q : ∀ s' g' oC oD m kv, Sim G (c.on [(C, oC), (D, oD)] (compEnvC sc cl C c.env)) g' h₂ s'.heap → g₀.le g' → Same s s' → NsO oC m → oD.IsDictOf (intKind G.prog G.w) kv → PD (RD (kn c g')) total kv → R (.ok .next) s') :
    codeAny (model G.prog G.w) c.A (.compLoop (.DictComp ke ve [⟨.Name x px, iter, ifs, 0⟩] sc pos) 0 (.ref I) (.ref D) (compEnvC sc cl C c.env)) R s := by
  refine codeAny_compLoop_testsD (DcSt G c sc cl C D I a kvs ep r k ce ke ve tg ifs total h₂ g₀ s) (fun f s₁ hI => ?_) f hs
  obtain ⟨i, ρ, h, g, oI, oC, oD, m, acc, kv, e, S, lg, sm, hno, it, Vs, hdo, hpd, hif⟩ := hI.is
  have S0 : Sim G ((c.on [(C, oC), (D, oD)] (compEnvC sc cl C c.env)).with (I, oI)) g h s₁.heap := S
  have hat : s₁.heap.DictAt (intKind G.prog G.w) a kvs ep := hda _ ((S.known (K.ok H.ok _) a oa) (Kn.mono lg.Z a oa hka))
  have hit : s₁.heap.IsKeyIter I a i kvs.length ep := ⟨oI, S0.privAt, it.1, it.2⟩
  cases hx : kvs[i]? with
  | none =>
    have hle := List.getElem?_eq_none_iff.mp hx
    have hdr : (kvs.map (·.1)).drop i = [] := List.drop_eq_nil_of_le (by rw [List.length_map]; exact hle)
    rw [hdr] at e
    cases e
    have hi : i = kvs.length := by omega
    subst hi
    refine wpAny_pyNext_dict_end H.ok.hh hit hat hx fun h' he => ?_
    exact q { s₁ with heap := h' } g oC oD m kv (S0.privDrop he) lg (sm.trans ⟨rfl, rfl⟩) hno hdo hpd
  | some p =>
    obtain ⟨key, val⟩ := p
    have hlt := (List.getElem?_eq_some_iff.mp hx).1
    refine wpAny_pyNext_dict_item hit hat hx fun kx h' hkx hit' hs' => ?_
    obtain ⟨oI', hoI, hc1, hc2⟩ := hit'
    have S₂ := S0.privSet hs' hoI
    obtain ⟨hIC, hDC⟩ := S.apart3
    have S₃ : Sim G (c.on ((C, oC) :: [(D, oD), (I, oI')]) (compEnvC sc cl C c.env)) g h h' := Sim.onPerm (l := [(I, oI'), (C, oC), (D, oD)]) (by
      exact (List.perm_append_comm (l₁ := [(I, oI')]) (l₂ := [(C, oC), (D, oD)]))) S₂
    have Vs₂ : Vars G (c.on ((C, oC) :: [(D, oD), (I, oI')]) (compEnvC sc cl C c.env)) g sc.names ρ := (Vs.swapFirst (oI' := oI') (oD' := oD) hIC hDC rfl).relist (fun p hp => by simp only [List.mem_cons, List.not_mem_nil, or_false] at hp ⊢; grind)
    have hdr : (kvs.map (·.1)).drop i = key :: (kvs.map (·.1)).drop (i + 1) := by
      rw [List.drop_eq_getElem_cons (by rw [List.length_map]; exact hlt)]
      congr 1
      rw [List.getElem_map, (List.getElem?_eq_some_iff.mp hx).2]
    rw [hdr] at e
    unfold dcompL at e
    obtain ⟨tk, rfl⟩ : ∃ t, kx = .int key t := key_int hkx
    refine tgt_ok (v := bI key) (ρ' := ρ.set tg (some (bI key))) (famC K H.ok C [(D, oD), (I, oI')]) K.nd (x := ⟨oC, m, hno⟩) (t := .Name x px) (tg := .one tg) (by unfold tgtOf; dsimp only; rw [ht]) rfl (.d (.int _ _)) S₃ Vs₂ fun x' s₃ S₄ q₃ Vs₃ => ?_
    obtain ⟨oC', m', hno'⟩ := x'
    have O' : Ok G (c.on ((C, oC') :: [(D, oD), (I, oI')]) (compEnvC sc cl C c.env)) := K.ok H.ok _
    have H' : Hyp G T r n (c.on ((C, oC') :: [(D, oD), (I, oI')]) (compEnvC sc cl C c.env)) { ce with names := sc.names } := H.on O' (K.ceOk H.Ck _)
    split at e
    · cases e
    · rename_i h1 e1
      refine ifs_ok H' e1 g s₃ S₄ Vs₃ _ _ fun b s₄ g₄ S₅ l₄ q₄ p₄ => ?_
      subst p₄
      simp only [Bool.false_eq_true, if_false]
      refine ⟨f - 1, by omega, ⟨i + 1, _, h1, g₄, oI', oC', oD, m', acc, kv, e, ?_, lg.trans l₄, (((sm.trans ⟨rfl, rfl⟩).trans ⟨q₃.os, q₃.gens⟩)).trans q₄, hno', ⟨hc1, hc2⟩, ?_, hdo, hpd.mono (fun _ _ q => q.mono (Kn.mono l₄.Z)), by omega⟩⟩
      · exact Sim.onPerm (l := (C, oC') :: [(D, oD), (I, oI')]) (List.perm_append_comm (l₁ := [(C, oC'), (D, oD)]) (l₂ := [(I, oI')])) S₅
      · exact (Vs₃.le l₄).relist (fun p hp => by simp only [List.mem_cons, List.not_mem_nil, or_false] at hp ⊢; grind)
    · rename_i h1 e1
      refine ifs_ok H' e1 g s₃ S₄ Vs₃ _ _ fun b s₄ g₄ S₅ l₄ q₄ p₄ => ?_
      subst p₄
      simp only [if_true]
      split at e
      case h_2 => cases e
      rename_i k' h3 e3
      split at e
      case h_2 => cases e
      rename_i y h4 e4
      split at e
      case isFalse => cases e
      rename_i hsh
      refine H'.ev e3 g₄ s₄ S₅ (Vs₃.le l₄) _ _ fun uk s₅ g₅ S₆ l₅ q₅ p₅ => ?_
      obtain ⟨tk', rfl⟩ := rd_int (h := []) p₅ rfl
      refine H'.ev e4 g₅ s₅ S₆ (Vs₃.le (l₄.trans l₅)) _ _ fun uv s₆ g₆ S₇ l₆ q₆ p₆ => ?_
      have S₈ : Sim G ((c.on [(I, oI'), (C, oC')] (compEnvC sc cl C c.env)).with (D, oD)) g₆ h4 s₆.heap := Sim.onPerm (l := (C, oC') :: [(D, oD), (I, oI')]) (l' := [(D, oD), (I, oI'), (C, oC')]) (List.perm_append_comm (l₁ := [(C, oC')]) (l₂ := [(D, oD), (I, oI')])) S₇
      have hlen : kv.length ≤ sizeLine := by
        have := Nat.le_of_ble_eq_true hsh
        rw [← hpd.length] at this
        rw [sizeLine_eq]; unfold lim at this; omega
      refine wpAny_dictSet_pairs (hsz := hlen) (int_is k' tk') (Heap.dictOf_iff.mpr ⟨oD, S₈.privAt, hdo⟩) fun h₅ hl₅ hs₅ => ?_
      obtain ⟨oD', hoD, hdo'⟩ := Heap.dictOf_iff.mp hl₅
      have S₉ := S₈.privSet hs₅ hoD
      have S₁₀ : Sim G (c.on [(I, oI'), (C, oC'), (D, oD')] (compEnvC sc cl C c.env)) g₆ h4 h₅ := Sim.onPerm (l := [(D, oD'), (I, oI'), (C, oC')]) (List.perm_append_comm (l₁ := [(D, oD')]) (l₂ := [(I, oI'), (C, oC')])) S₉
      have l46 := (l₄.trans l₅).trans l₆
      obtain ⟨_, _, _, _, _, _, ndk⟩ := hdo
      refine ⟨f - 1, by omega, ⟨i + 1, _, h4, g₆, oI', oC', oD', m', putI k' y acc, stored kv k' uv, e, S₁₀, (lg.trans l46), ?_, hno', ⟨hc1, hc2⟩, ?_, hdo', ?_, by omega⟩⟩
      · exact ⟨(q₆.os.trans (q₅.os.trans (q₄.os.trans (q₃.os.trans sm.os)))), (q₆.gens.trans (q₅.gens.trans (q₄.gens.trans (q₃.gens.trans sm.gens))))⟩
      · exact Vars.swapFirst (oI := oI') (oD := oD) (S₁₀.apart3).1 (S₁₀.apart3).2 rfl ((Vs₃.le l46).relist (fun p hp => by simp only [List.mem_cons, List.not_mem_nil, or_false] at hp ⊢; grind))
      · exact PD.put (rd_d p₆ rfl) (hpd.mono (fun _ _ q => q.mono (Kn.mono l46.Z))) ndk
end Mine
end
section
open PySem PySem.W PyProof.Rows PySem.Calls PySem.SeqAt
set_option linter.unusedVariables false
namespace Mine
variable {G : Gl} {α β : Type} {c : Cx} {g : Gh} {s : Shared} {h h' h₁ h₂ : List O}
variable {T : Tab} {r : Rec} {n k : Nat} {ce : CE} {ρ ρ' : Rho} {v : V}
variable {sc : Scope} {cl : List (Str × Addr)} {C : Addr}

theorem dcomp_core (H : Hyp G T r n c ce) (K : CompOk c sc cl) {ke ve iter : PySem.Expr} {x : Str} {px : Pos} {tg : Nat} {ifs : List PySem.Expr} {ini : List (Option Nat)} {pos : Pos} {mm total : List (Int × PyData)} {u : Value} {RR : Value → Addr → Result → Shared → Prop} {E : Value → Shared → Prop}
    (ht : storeSlot { ce with names := sc.names } x = some tg) (hi : initOf ce.names sc.names = some ini) (rv : VV G c g (.idict mm) u) (S : Sim G c g h s.heap) (Vs : Vars G c g ce.names ρ)
    (e : dcompL r (cE k { ce with names := sc.names } ke) (cE k { ce with names := sc.names } ve) tg (ifs.map (cE k { ce with names := sc.names })) (mm.map (·.1)) (initR ρ ini) h [] = some (total, h₂))
    (q : ∀ D C s' g' oC oD m kv, Sim G (c.on [(C, oC), (D, oD)] c.env) g' h₂ s'.heap → g.le g' → Same s s' → NsO oC m → oD.IsDictOf (intKind G.prog G.w) kv → PD (RD (kn c g')) total kv → (D == sysModules) = false → RR (.ref D) C (.ok .next) s') :
    wpAny (model G.prog G.w) c.A (pyIter u) (fun it s₂ => wpAny (model G.prog G.w) c.A newDict (fun acc s₃ => wpAny (model G.prog G.w) c.A (newFunctionEnv sc c.env.globals cl [] c.env.qual none .none (some c.env)) (fun cenv s₄ =>
      codeAny (model G.prog G.w) c.A (.compStart (.DictComp ke ve [⟨.Name x px, iter, ifs, 0⟩] sc pos) 0 it acc { cenv with scope := relabel sc c.env }) (RR acc cenv.locals) s₄) E s₃) E s₂) E s := by
  cases rv with
  | idict k1 k2 k3 k4 =>
    rename_i a oa kvs
    obtain ⟨es, ep, d1, d2, d3, d4, d5⟩ := k3
    have hda : ∀ H' : Heap, H'.get? a = some oa → H'.DictAt (intKind G.prog G.w) a kvs ep := fun H' h => ⟨oa, es, h, d1, d2, d3, d4, d5⟩
    have keys : kvs.map (·.1) = mm.map (·.1) := PD.keys k4
    rw [← keys] at e
    refine wpAny_pyIter_dict k2 (hda _ (S.known H.ok _ _ k1)) ?_
    let I := s.heap.objs.size
    let oI : Obj := { cls := .type "dict_keyiterator", data := .fields #[.ref a, .int 0 0, .int kvs.length 0, .int ep 0] }
    have S₁ : Sim G (c.with (I, oI)) g h (s.heap.push oI) := S.privPush rfl
    let s₁ : Shared := { s with heap := s.heap.push oI }
    have S₂ := Sim.privPush (s := s₁) S₁ (o := { cls := .type "dict", data := .dict #[] }) rfl
    have hcell : ∀ x ∈ sc.names, x.2 ≠ .cell := fun x hx => (scopeOk_mem K.sok hx).2
    have hsys : (s₁.heap.objs.size == sysModules) = false := lo_new (s := s₁) (c := c.with (I, oI)) (H.ok.with _) S₁
    refine wpAny_newObj_type (wpAny_newFunctionEnv hcell (by intro y hy; simp at hy) (fun h₂' hns hsb => ?_) K.kind)
    dsimp only at hns hsb ⊢
    have S₃ := Sim.privPush (s := { s₁ with heap := s₁.heap.push { cls := .type "dict", data := .dict #[] } }) S₂ (o := { cls := .type "dict", data := .dict #[] }) rfl
    obtain ⟨oC, hoC, hno⟩ := ns_at hns
    have S₄ := Sim.privSet (s := { s₁ with heap := (s₁.heap.push { cls := .type "dict", data := .dict #[] }).push { cls := .type "dict", data := .dict #[] } }) S₃ hsb hoC
    let D := s₁.heap.objs.size
    let C := (s₁.heap.push { cls := .type "dict", data := .dict #[] }).objs.size
    have S₅ : Sim G (c.on [(I, oI), (C, oC), (D, { cls := .type "dict", data := .dict #[] })] (compEnvC sc cl C c.env)) g h h₂' :=
      Sim.onPerm (c := c) (l := [(C, oC), (D, { cls := .type "dict", data := .dict #[] }), (I, oI)]) (e := c.env) (List.perm_append_comm (l₁ := [(C, oC), (D, { cls := .type "dict", data := .dict #[] })]) (l₂ := [(I, oI)])) S₄
    have loop : ∀ s₃ : Shared, s₃ = { s₁ with heap := h₂', toks := s₁.toks + ([] : List (Str × Value)).length } →
        codeAny (model G.prog G.w) c.A (.compLoop (.DictComp ke ve [⟨.Name x px, iter, ifs, 0⟩] sc pos) 0 (.ref I) (.ref D) (compEnvC sc cl C c.env)) (RR (.ref D) C) s₃ := by
      rintro s₃ rfl
      refine dcomp_loop H K ht k1 hda (g₀ := g) (f := kvs.length) ⟨0, initR ρ ini, h, g, oI, oC, _, _, [], [], e, S₅, .refl _, .refl _, hno, ⟨rfl, rfl⟩, ?_, emptyIs rfl _, .nil, Nat.zero_add _⟩ fun s' g' oC' oD' m' kv S' l' q' no' hdo hpd => ?_
      · exact Vars.init K H.Ck hi Vs
      · exact q D C s' g' oC' oD' m' kv S'.onEnv l' ⟨q'.os, q'.gens⟩ no' hdo hpd hsys
    refine codeAny_compStart_dict (loop _ rfl) ?_
    have hI : h₂'.get? I = some oI := (S₅.news (I, oI) (by unfold ledOf Cx.on; simp)).1
    have hkit : h₂'.IsKeyIter I a 0 kvs.length ep := ⟨oI, hI, rfl, rfl⟩
    exact wpAny_pyIter_keyiter (s := { s₁ with heap := h₂', toks := s₁.toks + ([] : List (Str × Value)).length }) hkit (loop _ rfl)

theorem ev_dcomp (H : Hyp G T r n c ce) {ke ve iter : PySem.Expr} {x : Str} {px : Pos} {ifs : List PySem.Expr} {pos : Pos} (e : stepEv T r (cE (k + 1) ce (.DictComp ke ve [⟨.Name x px, iter, ifs, 0⟩] sc pos)) ρ h = some (v, h')) :
    EvX G c ce.names (.DictComp ke ve [⟨.Name x px, iter, ifs, 0⟩] sc pos) ρ h v h' := by
  intro g s S Vs E Q q
  have eq : cE (k + 1) ce (.DictComp ke ve [⟨.Name x px, iter, ifs, 0⟩] sc pos) = (match storeSlot { ce with names := sc.names } x, initOf ce.names sc.names, fnKind sc && scopeOk sc.names with
      | some t, some ini, true => .dcomp (cE k { ce with names := sc.names } ke) (cE k { ce with names := sc.names } ve) t (cE k ce iter) (ifs.map (cE k { ce with names := sc.names })) ini
      | _, _, _ => .fail) := rfl
  rw [eq] at e
  split at e
  · rename_i tg ini h1 h2 h3
    have h3' := Bool.and_eq_true_iff.mp h3
    unfold stepEv at e
    dsimp only at e
    split at e
    · rename_i mm h₁ e1
      split at e
      · split at e
        · cases e
        · rename_i total h₂ e2
          cases e
          obtain ⟨cl, hcl, K⟩ := comp_ok H h3'.1 h3'.2 h2
          rw [arm_eval_DictComp]
          refine wpAny_comprehension_free (use := none) rfl (fun u => notSet H e1 _ u) hcl K.kind (fun x hx hl => hl ▸ (scopeOk_mem K.sok hx).1) ?_
          refine H.ev e1 g s S Vs E _ fun u s₁ g₁ S₁ l₁ q₁ p₁ => ?_
          refine dcomp_core H K h1 h2 p₁ S₁ (Vs.le l₁) e2 fun D C s' g' oC oD m kv S' l' q' no hdo hpd hsys => ?_
          have S'' : Sim G ((c.on [(D, oD)] c.env).with (C, oC)) g' h' s'.heap := S'
          obtain ⟨es, ep, d1, d2, d3⟩ := no
          refine ⟨m, ⟨oC, es, ep, S''.privAt, d1, d2, d3⟩, fun h'' hs => ?_⟩
          have S₃ : Sim G ((c.on [] c.env).with (D, oD)) g' h' h'' := S''.privDrop hs.extBut
          obtain ⟨S₄, N₄, ap⟩ := S₃.unpriv
          exact q _ { s' with heap := h'' } _ (Sim.freezeN (s := { s' with heap := h'' }) S₄.off0 S₄.fr N₄ ap) ((l₁.trans l').trans (Gh.le_freeze _ _)) ((q₁.trans q').trans ⟨rfl, rfl⟩)
            (.idict (.inr (.head _)) hsys hdo (hpd.mono fun _ _ q => q.mono (Kn.mono fun _ q => .tail _ q)))
      · cases e
    · cases e
  · cases e

theorem evAll (H : Hyp G T r n c ce) : ∀ {k : Nat} {x : PySem.Expr}, stepEv T r (cE k ce x) ρ h = some (v, h') → EvX G c ce.names x ρ h v h'
  | 0, x, e => by rw [cE_zero] at e; cases e
  | k + 1, x, e => by
    have bad : cE (k + 1) ce x = .fail → EvX G c ce.names x ρ h v h' := fun z => by rw [z] at e; cases e
    cases x with
    | Constant x i p => exact evOf_const H e
    | Name x p => exact evOf_name H e
    | Tuple es i p => exact evOf_tuple H e
    | List es p => exact evOf_list H e
    | Dict ks vs p => exact ev_dsp H e
    | BinOp x op y p => exact evOf_bin H e
    | BoolOp op es p => exact ev_bop H e
    | IfExp t x y p => exact ev_ite H e
    | Attribute x a p => exact ev_attr H e
    | UnaryOp op x p =>
      cases op with
      | Not => exact ev_not H e
      | USub => exact ev_neg H e
      | _ => exact bad rfl
    | Compare x ops ys p =>
      match ops, ys with
      | [op], [y] => exact evOf_cmp H e
      | [op, op'], [y, z] => exact evOf_cmp2 H e
      | [], _ => exact bad (by cases ys <;> rfl)
      | [_], [] => exact bad rfl
      | [_], _ :: _ :: _ => exact bad rfl
      | [_, _], [] => exact bad rfl
      | [_, _], [_] => exact bad rfl
      | [_, _], _ :: _ :: _ :: _ => exact bad rfl
      | _ :: _ :: _ :: _, _ => exact bad rfl
    | Subscript x i p =>
      have gen : notSlice i = true → cE (k + 1) ce (.Subscript x i p) = .sub (cE k ce x) (cE k ce i) → EvX G c ce.names (.Subscript x i p) ρ h v h' := fun a b => by rw [b] at e; exact ev_subP H a e
      cases i with
      | Slice lo hi st sp =>
        cases st with
        | none => exact ev_slc H e
        | some st =>
          exfalso
          have eq : cE (k + 1) ce (.Subscript x (.Slice lo hi (some st) sp) p) = .sub (cE k ce x) (cE k ce (.Slice lo hi (some st) sp)) := rfl
          have eq2 : cE k ce (.Slice lo hi (some st) sp) = .fail := by cases k <;> rfl
          rw [eq, eq2] at e
          unfold stepEv at e
          dsimp only at e
          split at e
          · cases e
          · rw [H.IH.fail] at e; cases e
      | _ => exact gen rfl rfl
    | Call f args kw p =>
      cases kw with
      | cons _ _ => exact bad (by cases f <;> rfl)
      | nil =>
        cases f with
        | Name x xp =>
          unfold cE at e
          dsimp only at e
          split at e
          · cases e
          · rename_i hc
            have hc' : reserved x = false ∧ plainArgs args = true := by
              have := Bool.eq_false_iff.mpr hc
              rw [Bool.or_eq_false_iff] at this
              exact ⟨this.1, by simpa using this.2⟩
            split at e
            · rename_i hg
              split at e
              · rename_i hx; exact ev_callF H hc'.1 hc'.2 hg hx e
              · rename_i hx; exact ev_callC H hc'.1 hc'.2 hg hx e
              · rename_i hx; exact ev_callB H hc'.1 hc'.2 hg hx e
              · cases e
            · cases e
        | Attribute o a ap =>
          unfold cE at e
          dsimp only at e
          split at e
          · cases e
          · rename_i hc
            have hc' : baseOk o = true ∧ plainArgs args = true ∧ ap.endLine = p.line := by
              have := Bool.eq_false_iff.mpr hc
              rw [Bool.or_eq_false_iff, Bool.or_eq_false_iff] at this
              exact ⟨by simpa using this.1, by simpa using this.2.1, by simpa using this.2.2⟩
            split at e
            · rename_i hx; exact ev_methB H hc'.1 hc'.2.1 hc'.2.2 hx e
            · exact ev_methI H hc'.1 hc'.2.1 hc'.2.2 e
        | _ => exact bad rfl
    | ListComp elt gens sc p =>
      match gens with
      | [⟨t, it, ifs, .ofNat 0⟩] => exact ev_comp H e
      | [] => exact bad rfl
      | [⟨t, it, ifs, .ofNat (i + 1)⟩] => exact bad rfl
      | [⟨t, it, ifs, .negSucc i⟩] => exact bad rfl
      | ⟨t, it, ifs, i⟩ :: _ :: _ => exact bad (by cases i with | ofNat m => (cases m <;> rfl) | negSucc m => rfl)
    | DictComp kk vv gens sc p =>
      match gens with
      | [⟨t, it, ifs, .ofNat 0⟩] =>
        cases t with
        | Name x px => exact ev_dcomp H e
        | _ => exact bad rfl
      | [] => exact bad rfl
      | [⟨t, it, ifs, .ofNat (i + 1)⟩] => exact bad (by cases t <;> rfl)
      | [⟨t, it, ifs, .negSucc i⟩] => exact bad (by cases t <;> rfl)
      | ⟨t, it, ifs, i⟩ :: _ :: _ => exact bad (by cases t <;> first | rfl | (cases i with | ofNat m => (cases m <;> rfl) | negSucc m => rfl))
    | _ => exact bad rfl
end Mine
end
section
open PySem PySem.W PyProof.Rows PySem.Calls PySem.SeqAt
set_option linter.unusedVariables false
namespace Mine
variable {G : Gl} {α β : Type} {c : Cx} {g : Gh} {s : Shared} {h h' h₁ h₂ : List O}
variable {T : Tab} {r : Rec} {n k : Nat} {ce : CE} {ρ ρ' : Rho} {v : V}

structure leB (b : Nat) (g g' : Gh) : Prop where
  as : g.as.take b <+: g'.as
  Z : ∀ p ∈ g.Z, p ∈ g'.Z
theorem Gh.le.leB {g g' : Gh} (l : g.le g') (b : Nat) : leB b g g' := ⟨(List.take_prefix _ _).trans l.as, l.Z⟩
theorem leB.refl (b : Nat) (g : Gh) : leB b g g := ⟨List.take_prefix _ _, fun _ h => h⟩
theorem pre_take {l l' : List Addr} {b : Nat} (h : l <+: l') (hl : l.length ≤ b) : l <+: l'.take b := by
  obtain ⟨t, rfl⟩ := h
  rw [List.take_append, List.take_of_length_le hl]
  exact List.prefix_append _ _
theorem leB.trans {b : Nat} {g g' g'' : Gh} (x : leB b g g') (y : leB b g' g'') : leB b g g'' :=
  ⟨(pre_take x.as (by rw [List.length_take]; exact Nat.min_le_left _ _)).trans y.as, fun p h => y.Z p (x.Z p h)⟩
theorem leB.down {b n : Nat} {g g' : Gh} (x : leB n g g') (hb : b ≤ n) : leB b g g' := by
  refine ⟨?_, x.Z⟩
  have : g.as.take b <+: g.as.take n := by
    refine pre_take (List.take_prefix _ _) ?_
    rw [List.length_take]; exact Nat.le_trans (Nat.min_le_left _ _) hb
  exact this.trans x.as
theorem leB.le {g g' : Gh} (x : leB g.as.length g g') : g.le g' := ⟨by have := x.as; rwa [List.take_length] at this, x.Z⟩
theorem leB.len {b : Nat} {g g' : Gh} (x : leB b g g') (hb : b ≤ g.as.length) : b ≤ g'.as.length := by
  have := x.as.length_le
  rwa [List.length_take, Nat.min_eq_left hb] at this

/-! forgetting -/
def Gh.cut (g : Gh) (n : Nat) : Gh := ⟨g.as.take n, g.Z, g.mu.take n⟩
theorem undH_get : ∀ {k : Nat} {h : List O} {i : Nat} {o : O}, undH n k h = true → i < k → h[i]? = some o → o.und n = true
  | 0, _, _, _, _, hi, _ => by omega
  | k + 1, [], i, o, _, _, e => by simp at e
  | k + 1, x :: r, 0, o, e, _, eo => by
    have e' : x.und n = true ∧ undH n k r = true := Bool.and_eq_true_iff.mp e
    simp at eo; subst eo; exact e'.1
  | k + 1, x :: r, i + 1, o, e, hi, eo => by
    have e' : x.und n = true ∧ undH n k r = true := Bool.and_eq_true_iff.mp e
    exact undH_get e'.2 (by omega) eo
theorem Sim.cut {H : Heap} (S : Sim G c g h H) (hu : undH n n h = true) : Sim G c (g.cut n) (h.take n) H := by
  have sub : (ledOf c (g.cut n)).Sublist (ledOf c g) := by
    unfold ledOf Gh.cut
    refine List.Sublist.append_left (List.Sublist.append_left (List.Sublist.append_right ?_ _) _) _
    have e : g.mu.flatten = (g.mu.take n).flatten ++ (g.mu.drop n).flatten := by rw [← List.flatten_append, List.take_append_drop]
    rw [e]
    exact List.sublist_append_left _ _
  refine ⟨S.fr, fun p hp => S.news p (sub.subset hp), S.nd.sublist (sub.map _), ?_, ?_, fun i o a b h1 h2 h3 => ?_⟩
  · show (g.as.take n).length = _; rw [List.length_take, List.length_take, S.la]
  · show (g.mu.take n).length = _; rw [List.length_take, List.length_take, S.lm]
  · have h2' : (g.as.take n)[i]? = some a := h2
    have h3' : (g.mu.take n)[i]? = some b := h3
    rw [List.getElem?_take] at h1 h2' h3'
    split at h1
    · rename_i hi
      rw [if_pos hi] at h2' h3'
      exact (S.objs i o a b h1 h2' h3').cut (undH_get hu hi h1)
    · cases h1
theorem Vars.cut {names : List (Str × NameKind)} (n : Nat) (Vs : Vars G c g names ρ) : Vars G c (g.cut n) names (ρ.map (poison n)) := by
  intro i x k v h1 h2 h3
  rw [List.getElem?_map] at h3
  cases hq : ρ[i]? with
  | none => rw [hq] at h3; cases h3
  | some w =>
    rw [hq] at h3
    cases w with
    | none => cases h3
    | some w =>
      obtain ⟨u, k1, k2⟩ := Vs i x k w h1 h2 hq
      refine ⟨u, k1, ?_⟩
      have e : (if w.und n then w else .bad) = v := Option.some.inj (Option.some.inj h3)
      by_cases hw : w.und n = true
      · rw [if_pos hw] at e; subst e; exact VR.cut _ _ hw k2
      · rw [if_neg hw] at e; subst e; exact .bad
theorem Vars.unset {names : List (Str × NameKind)} (i : Nat) (Vs : Vars G c g names ρ) : Vars G c g names (ρ.set i none) := by
  intro j x k v h1 h2 h3
  rw [List.getElem?_set] at h3
  split at h3
  · split at h3 <;> cases h3
  · exact Vs j x k v h1 h2 h3
theorem cutTo_ok {H : Heap} {st : St} {names : List (Str × NameKind)} {g₀ : Gh} (S : Sim G c g st.h H) (Vs : Vars G c g names st.r) (l : leB n g₀ g) : ∃ g', Sim G c g' (cutTo n st).h H ∧ Vars G c g' names (cutTo n st).r ∧ leB n g₀ g' ∧ (cutTo n st).b = st.b := by
  unfold cutTo
  split
  · exact ⟨g, S, Vs, l, rfl⟩
  · unfold Mine.cut
    split
    · rename_i hu
      exact ⟨g.cut n, S.cut hu, Vs.cut n, ⟨pre_take l.as (by rw [List.length_take]; exact Nat.min_le_left _ _), l.Z⟩, rfl⟩
    · exact ⟨g, S, Vs, l, rfl⟩
/-- the last thing is changed no more -/
theorem Sim.takeLast {H : Heap} {o : O} (S : Sim G c g h H) (hl : n + 1 = h.length) (hu : undH n n h = true) (ho : h[n]? = some o) : ∃ a b, g.as[n]? = some a ∧ OR (prog := G.prog) (w := G.w) G.cg (kn c g) g.as o a b ∧ Sim G c ⟨g.as.take n, b ++ g.Z, g.mu.take n⟩ (h.take n) H := by
  have hn : n < h.length := by omega
  have h1 : g.as[n]? = some (g.as[n]'(S.la ▸ hn)) := List.getElem?_eq_getElem _
  have h2 : g.mu[n]? = some (g.mu[n]'(S.lm ▸ hn)) := List.getElem?_eq_getElem _
  refine ⟨_, _, h1, S.objs n o _ _ ho h1 h2, ?_⟩
  have hmu : g.mu = g.mu.take n ++ [g.mu[n]'(S.lm ▸ hn)] := by
    rw [List.take_append_getElem]
    rw [List.take_of_length_le]; rw [S.lm]; omega
  have e : ledOf c ⟨g.as.take n, g.mu[n]'(S.lm ▸ hn) ++ g.Z, g.mu.take n⟩ = ledOf c g := by
    have e2 : g.mu.flatten = (g.mu.take n).flatten ++ g.mu[n]'(S.lm ▸ hn) := by
      conv => lhs; rw [hmu]
      rw [List.flatten_append, List.flatten_cons, List.flatten_nil, List.append_nil]
    unfold ledOf
    rw [e2, List.append_assoc]
  refine ⟨S.fr, by rw [e]; exact S.news, by rw [e]; exact S.nd, ?_, ?_, fun i o a b h1 h2 h3 => ?_⟩
  · show (g.as.take n).length = _; rw [List.length_take, List.length_take, S.la]
  · show (g.mu.take n).length = _; rw [List.length_take, List.length_take, S.lm]
  · have h2' : (g.as.take n)[i]? = some a := h2
    have h3' : (g.mu.take n)[i]? = some b := h3
    rw [List.getElem?_take] at h1 h2' h3'
    split at h1
    · rename_i hi
      rw [if_pos hi] at h2' h3'
      exact ((S.objs i o a b h1 h2' h3').cut (undH_get hu hi h1)).mono (Kn.mono fun _ q => List.mem_append_right _ q) (List.prefix_refl _)
    · cases h1

/-! statements -/
inductive FlR (G : Gl) (c : Cx) (g : Gh) : Fl → Flow → Prop
  | next : FlR G c g .next .next
  | ret {v u} : VV G c g v u → FlR G c g (.ret v) (.ret u)
abbrev Cx.fx (c : Cx) (X : FX c) : Cx := c.st X.m X.cells X.cm
def Post (G : Gl) (c : Cx) (names : List (Str × NameKind)) (g : Gh) (s : Shared) (b : Nat) (fl : Fl) (st' : St) (Q : Flow → Shared → Prop) : Prop :=
  ∀ fl' s' g' (X' : FX c), Sim G (c.fx X') g' st'.h s'.heap → leB b g g' → Same s s' → FlR G c g' fl fl' → (fl = .next → Vars G (c.fx X') g' names st'.r) → Q fl' s'
def ExX (G : Gl) (c : Cx) (names : List (Str × NameKind)) (x : PySem.Stmt) (st : St) (fl : Fl) (st' : St) : Prop :=
  st'.b = st.b ∧ ∀ (X : FX c) g s, Sim G (c.fx X) g st.h s.heap → Vars G (c.fx X) g names st.r → st.b ≤ st.h.length → ∀ E Q, Post G c names g s st.b fl st' Q → wpAny (model G.prog G.w) c.A (exec x c.env) Q E s
def ExXs (G : Gl) (c : Cx) (names : List (Str × NameKind)) (xs : List PySem.Stmt) (st : St) (fl : Fl) (st' : St) : Prop :=
  st'.b = st.b ∧ ∀ (X : FX c) g s, Sim G (c.fx X) g st.h s.heap → Vars G (c.fx X) g names st.r → st.b ≤ st.h.length → ∀ E Q, Post G c names g s st.b fl st' Q → wpAny (model G.prog G.w) c.A (execs xs c.env) Q E s

structure RecX (G : Gl) (T : Tab) (r : Rec) (n : Nat) : Prop where
  ok : RecOk G r n
  unf : ∀ e ρ h z, r.ev e ρ h = some z → ∃ r' n', stepEv T r' e ρ h = some z ∧ n = n' + 1 ∧ RecOk G r' n'
  sfail : ∀ st, r.ex .fail st = none
  ex : ∀ c, Ok G c → FOk c → (c.fenv.cells.map (·.1)).Nodup → Room n c.A → ∀ k ce x st fl st', CeOk G ce c → r.ex (cS k ce x) st = some (fl, st') → ExX G c ce.names x st fl st'
structure HypX (G : Gl) (T : Tab) (r : Rec) (n : Nat) (c : Cx) (ce : CE) : Prop where
  H : Hyp G T r n c ce
  X : RecX G T r n
  f : FOk c
  nd : (c.fenv.cells.map (·.1)).Nodup
theorem Hyp.fx (H : Hyp G T r n c ce) (X : FX c) : Hyp G T r n (c.fx X) ce := ⟨H.IH, H.ok.st X.ok, H.Rm, ⟨H.Ck.gl, H.Ck.glk, H.Ck.look, H.Ck.nd, H.Ck.loc, H.Ck.cell⟩, H.CK⟩
theorem HypX.ex (H : HypX G T r n c ce) {k : Nat} {x : PySem.Stmt} {st st' : St} {fl : Fl} (e : r.ex (cS k ce x) st = some (fl, st')) : ExX G c ce.names x st fl st' := H.X.ex c H.H.ok H.f H.nd H.H.Rn k ce x st fl st' H.H.Ck e
theorem HypX.exs (H : HypX G T r n c ce) : ∀ {xs : List PySem.Stmt} {st st' : St} {fl : Fl}, exs r (xs.map (cS k ce)) st = some (fl, st') → ExXs G c ce.names xs st fl st'
  | [], st, st', fl, e => by
    cases e
    exact ⟨rfl, fun X g s S Vs hb E Q q => wpAny_pure (q _ s g X S (.refl _ _) (.refl _) .next fun _ => Vs)⟩
  | x :: xs, st, st', fl, e => by
    rw [List.map_cons] at e
    unfold Mine.exs at e
    split at e
    · rename_i st₁ e1
      obtain ⟨hb1, a⟩ := H.ex e1
      obtain ⟨hb2, b⟩ := H.exs e
      refine ⟨hb2.trans hb1, fun X g s S Vs hb E Q q => ?_⟩
      refine wpAny_execs_cons (a X g s S Vs hb E _ fun fl₁ s₁ g₁ X₁ S₁ l₁ q₁ p₁ Vs₁ => ?_)
      cases p₁
      refine b X₁ g₁ s₁ S₁ (Vs₁ rfl) ?_ E Q fun fl₂ s₂ g₂ X₂ S₂ l₂ q₂ p₂ Vs₂ => ?_
      · rw [hb1, ← S₁.la]
        exact l₁.len (by rw [S.la]; exact hb)
      · rw [hb1] at l₂
        exact q fl₂ s₂ g₂ X₂ S₂ (l₁.trans l₂) (q₁.trans q₂) p₂ Vs₂
    · rename_i v st₁ e1
      cases e
      obtain ⟨hb1, a⟩ := H.ex e1
      refine ⟨hb1, fun X g s S Vs hb E Q q => ?_⟩
      refine wpAny_execs_cons (a X g s S Vs hb E _ fun fl₁ s₁ g₁ X₁ S₁ l₁ q₁ p₁ Vs₁ => ?_)
      cases p₁ with
      | ret p => exact q _ s₁ g₁ X₁ S₁ l₁ q₁ (.ret p) (fun z => by cases z)
    · cases e
end Mine
end
section
open PySem PySem.W PyProof.Rows PySem.Calls PySem.SeqAt
set_option linter.unusedVariables false
namespace Mine
variable {G : Gl} {α β : Type} {c : Cx} {g : Gh} {s : Shared} {h h' h₁ h₂ : List O}
variable {T : Tab} {r : Rec} {n k : Nat} {ce : CE} {ρ ρ' : Rho} {v : V} {st st' : St} {fl : Fl}

theorem HypX.evx (H : HypX G T r n c ce) (X : FX c) {k : Nat} {x : PySem.Expr} {ρ : Rho} {h h' : List O} {v : V} (e : r.ev (cE k ce x) ρ h = some (v, h')) : EvX G (c.fx X) ce.names x ρ h v h' := (H.H.fx X).ev e

def soleTgt : PySem.Expr → Bool
  | .Name _ _ => true
  | .Attribute _ _ _ => true
  | .Subscript _ _ _ => true
  | _ => false
theorem assign_plain {M : Model} {A : Around} {E : Value → Shared → Prop} {env : Env} {t value : PySem.Expr} {pos : Pos} {Q : Flow → Shared → Prop} (ht : soleTgt t = true) (hs : swapsWith value (some t) pos.line env = pure false)
    (h : wpAny M A (eval value env) (fun v s₁ => wpAny M A (assign t env v) (fun _ => Q .next) E s₁) E s) : wpAny M A (exec (.Assign [t] value pos) env) Q E s := by
  rw [exec_Assign]
  refine wpAny_bind (wpAny_standAt ?_)
  rw [show swapsWithSole [t] value pos.line env = swapsWith value (some t) pos.line env from rfl, hs]
  refine wpAny_bind (wpAny_pure ?_)
  rw [if_neg (by decide)]
  refine wpAny_bind (wpAny_mono h (fun v s₁ h₁ => ?_) fun _ _ x => x)
  have hw : swappedStores [t] value env = pure none := by
    cases t <;> first | rfl | cases ht
  rw [hw]
  refine wpAny_bind (wpAny_pure ?_)
  have ha : (assignEach [t] env).map (·.2) = [assign t env] := by cases t <;> first | rfl | cases ht
  rw [ha]
  show wpAny M A (do assignAll v [assign t env]; pure .next) Q E s₁
  exact wpAny_bind (wpAny_mono h₁ (fun _ _ x => wpAny_pure x) fun _ _ x => x)
theorem swaps_not {value : PySem.Expr} {t : Option PySem.Expr} {line : Nat} {env : Env} (h : notComp value = true) : swapsWith value t line env = pure false := by
  cases value <;> first | rfl | cases h
theorem swaps_sole {value t : PySem.Expr} {line : Nat} {env : Env} (h : match t with | .Name _ _ => False | _ => True) : swapsWith value (some t) line env = pure false := by
  cases t <;> first | (cases value <;> rfl) | exact h.elim

/-- the contexts of a function's body -/
def HypX.fam (H : HypX G T r n c ce) : Fam G ce c.env := famF c G ce H.H.ok H.H.Ck H.f H.nd

theorem ex_asg (H : HypX G T r n c ce) {x : Str} {p pos : Pos} {value : PySem.Expr} {i : Nat} (hi : storeSlot ce x = some i) (hc : notComp value = true) (e : stepEx r (.asg i (cE k ce value)) st = some (fl, st')) :
    ExX G c ce.names (.Assign [.Name x p] value pos) st fl st' := by
  unfold stepEx at e
  dsimp only at e
  split at e
  · rename_i v h1 e1
    cases e
    refine ⟨rfl, fun X g s S Vs hb E Q q => ?_⟩
    refine assign_plain rfl (swaps_not hc) ((H.evx X e1) g s S Vs E _ fun u s₁ g₁ S₁ l₁ q₁ p₁ => assign_Name ?_)
    refine H.fam.store X x i g₁ h1 s₁ u E _ hi S₁ fun X' s₂ S₂ q₂ k1 k2 => ?_
    exact q .next s₂ g₁ X' S₂ (l₁.leB _) (q₁.trans q₂) .next fun _ => (Vs.le l₁).store H.H.Ck.nd rfl hi k1 k2 p₁
  · cases e

theorem ex_unp (H : HypX G T r n c ce) {ts : List PySem.Expr} {j : Nat} {tp pos : Pos} {value : PySem.Expr} {is : List Nat} (hi : mapO (nameSlot ce) ts = some is)
    (hw : swappedStores [.Tuple ts j tp] value c.env = pure none) (e : stepEx r (.unp false is (cE k ce value)) st = some (fl, st')) :
    ExX G c ce.names (.Assign [.Tuple ts j tp] value pos) st fl st' := by
  unfold stepEx at e
  dsimp only at e
  split at e
  · rename_i v h1 e1
    split at e
    · rename_i r' hb
      cases e
      refine ⟨rfl, fun X g s S Vs hb' E Q q => ?_⟩
      refine Assign_Tuple ((H.evx X e1) g s S Vs E _ fun u s₁ g₁ S₁ l₁ q₁ p₁ => ?_) (show swapsWith value (some (.Tuple ts j tp)) pos.line c.env = pure false from swaps_sole trivial) hw
      refine tgt_ok H.fam H.H.Ck.nd (x := X) (t := .Tuple ts j tp) (tg := .many is) (by unfold tgtOf; dsimp only; rw [hi]) hb p₁ S₁ (Vs.le l₁) fun X' s₂ S₂ q₂ Vs₂ => ?_
      exact q .next s₂ g₁ X' S₂ (l₁.leB _) (q₁.trans q₂) .next fun _ => Vs₂
    · cases e
  · cases e

theorem ex_unpR (H : HypX G T r n c ce) {ts : List PySem.Expr} {j : Nat} {tp pos : Pos} {value : PySem.Expr} {names : List Str} {is : List Nat} (hi : mapO (storeSlot ce) names = some is)
    (hw : swappedStores [.Tuple ts j tp] value c.env = pure (some names)) (e : stepEx r (.unp true is (cE k ce value)) st = some (fl, st')) :
    ExX G c ce.names (.Assign [.Tuple ts j tp] value pos) st fl st' := by
  unfold stepEx at e
  dsimp only at e
  split at e
  · rename_i v h1 e1
    split at e
    · rename_i r' hb
      cases e
      refine ⟨rfl, fun X g s S Vs hb' E Q q => ?_⟩
      refine Assign_Tuple_swapped ((H.evx X e1) g s S Vs E _ fun u s₁ g₁ S₁ l₁ q₁ p₁ => ?_) (show swapsWith value (some (.Tuple ts j tp)) pos.line c.env = pure false from swaps_sole trivial) hw
      exact swap_ok H.fam H.H.Ck.nd (x := X) (Q := fun _ => Q .next) (E := E) hi hb p₁ S₁ (Vs.le l₁) fun X' s₂ S₂ q₂ Vs₂ => q .next s₂ g₁ X' S₂ (l₁.leB _) (q₁.trans q₂) .next fun _ => Vs₂
    · cases e
  · cases e

theorem ex_asgA (H : HypX G T r n c ce) {o value : PySem.Expr} {a : Str} {p pos : Pos} (hn : attrName a = true) (e : stepEx r (.asgA (cE k ce o) a (cE k ce value)) st = some (fl, st')) :
    ExX G c ce.names (.Assign [.Attribute o a p] value pos) st fl st' := by
  unfold stepEx at e
  dsimp only at e
  split at e
  · cases e
  · rename_i v h1 e1
    split at e
    · cases e
    · rename_i x h2 e2
      split at e
      · rename_i h3 e3
        cases e
        refine ⟨rfl, fun X g s S Vs hb E Q q => ?_⟩
        refine assign_plain rfl (swaps_sole trivial) ((H.evx X e1) g s S Vs E _ fun u s₁ g₁ S₁ l₁ q₁ p₁ => ?_)
        show wpAny _ _ (do let ov ← holding [u] (eval o c.env); standAt p.atName; holding [u, ov] (setAttr ov a u); release [u, ov] []) _ _ _
        refine wpAny_bind (wpAny_holding ((H.evx X e2) g₁ s₁ S₁ (Vs.le l₁) E _ fun w s₂ g₂ S₂ l₂ q₂ p₂ => ?_))
        refine wpAny_bind (wpAny_standAt (wpAny_bind (wpAny_holding (setA_ok (H.H.fx X).ok H.H.CK hn S₂ p₂ (VV.le l₂ p₁) e3 E _ fun _ s₃ g₃ S₃ l₃ q₃ _ => ?_))))
        refine wpAny_release' ?_
        exact q .next s₃ g₃ X S₃ (((l₁.trans l₂).trans l₃).leB _) ((q₁.trans q₂).trans q₃) .next fun _ => Vs.le ((l₁.trans l₂).trans l₃)
      · cases e

theorem ex_asgS (H : HypX G T r n c ce) {o i value : PySem.Expr} {p pos : Pos} (hs : notSlice i = true) (e : stepEx r (.asgS (cE k ce o) (cE k ce i) (cE k ce value)) st = some (fl, st')) :
    ExX G c ce.names (.Assign [.Subscript o i p] value pos) st fl st' := by
  unfold stepEx at e
  dsimp only at e
  split at e
  · cases e
  · rename_i v h1 e1
    split at e
    · cases e
    · rename_i x h2 e2
      split at e
      · cases e
      · rename_i y h3 e3
        split at e
        · rename_i h4 e4
          cases e
          refine ⟨rfl, fun X g s S Vs hb E Q q => ?_⟩
          refine assign_plain rfl (swaps_sole trivial) ((H.evx X e1) g s S Vs E _ fun u s₁ g₁ S₁ l₁ q₁ p₁ => ?_)
          obtain ⟨l, eq⟩ : ∃ l : Value → Value → List Value, assign (.Subscript o i p) c.env u = (do
              let ov ← holding [u] (eval o c.env)
              let iv ← holding [u, ov] (eval i c.env)
              standAt p
              holding [u, ov, iv] (setItem ov iv u)
              release (l ov iv) []) := ⟨_, rfl⟩
          rw [eq]
          refine wpAny_bind (wpAny_holding ((H.evx X e2) g₁ s₁ S₁ (Vs.le l₁) E _ fun w s₂ g₂ S₂ l₂ q₂ p₂ => ?_))
          refine wpAny_bind (wpAny_holding ((H.evx X e3) g₂ s₂ S₂ (Vs.le (l₁.trans l₂)) E _ fun z s₃ g₃ S₃ l₃ q₃ p₃ => ?_))
          refine wpAny_bind (wpAny_standAt (wpAny_bind (wpAny_holding (setS_ok (H.H.fx X).ok S₃ (VV.le l₃ p₂) p₃ (VV.le (l₂.trans l₃) p₁) e4 E _ fun _ s₄ g₄ S₄ l₄ q₄ _ => ?_))))
          refine wpAny_release' ?_
          have l := ((l₁.trans l₂).trans l₃).trans l₄
          exact q .next s₄ g₄ X S₄ (l.leB _) (((q₁.trans q₂).trans q₃).trans q₄) .next fun _ => Vs.le l
        · cases e

theorem ex_expr (H : HypX G T r n c ce) {x : PySem.Expr} {pos : Pos} (hc : notComp x = true) (e : stepEx r (.expr (cE k ce x)) st = some (fl, st')) : ExX G c ce.names (.Expr x pos) st fl st' := by
  unfold stepEx at e
  dsimp only at e
  split at e
  · rename_i v h1 e1
    cases e
    refine ⟨rfl, fun X g s S Vs hb E Q q => ?_⟩
    have hint : interactive c.env = false := by unfold interactive; rw [H.H.ok.ek]; rfl
    rw [exec_Expr c.env x pos hint (swaps_not hc)]
    refine wpAny_bind (wpAny_standAt (wpAny_bind ((H.evx X e1) g s S Vs E _ fun u s₁ g₁ S₁ l₁ q₁ p₁ => wpAny_dropValue ?_)))
    exact q .next s₁ g₁ X S₁ (l₁.leB _) q₁ .next fun _ => Vs.le l₁
  · cases e

theorem ex_ret (H : HypX G T r n c ce) {x : PySem.Expr} {pos : Pos} (e : stepEx r (.ret (cE k ce x)) st = some (fl, st')) : ExX G c ce.names (.Return (some x) pos) st fl st' := by
  unfold stepEx at e
  dsimp only at e
  split at e
  · rename_i v h1 e1
    cases e
    refine ⟨rfl, fun X g s S Vs hb E Q q => wpAny_Return_some ((H.evx X e1) g s S Vs E _ fun u s₁ g₁ S₁ l₁ q₁ p₁ => ?_)⟩
    exact q _ s₁ g₁ X S₁ (l₁.leB _) q₁ (.ret p₁) fun z => by cases z
  · cases e

theorem ex_ite (H : HypX G T r n c ce) {t : PySem.Expr} {a b : List PySem.Stmt} {pos : Pos} (e : stepEx r (.ite (cE k ce t) (a.map (cS k ce)) (b.map (cS k ce))) st = some (fl, st')) : ExX G c ce.names (.If t a b pos) st fl st' := by
  unfold stepEx at e
  dsimp only at e
  split at e
  · rename_i h1 e1
    obtain ⟨hb1, a1⟩ := H.exs e
    refine ⟨hb1, fun X g s S Vs hb E Q q => wpAny_If (ts_ok (H.H.fx X) e1 g s S Vs _ rfl E _ fun b' s₁ g₁ S₁ l₁ q₁ p₁ => ?_)⟩
    subst p₁
    rw [if_pos rfl]
    refine a1 X g₁ s₁ S₁ (Vs.le l₁) (by rw [← S₁.la]; exact Nat.le_trans (by rw [S.la]; exact hb) l₁.as.length_le) E Q fun fl₂ s₂ g₂ X₂ S₂ l₂ q₂ p₂ Vs₂ => ?_
    exact q fl₂ s₂ g₂ X₂ S₂ ((l₁.leB _).trans l₂) (q₁.trans q₂) p₂ Vs₂
  · rename_i h1 e1
    obtain ⟨hb1, a1⟩ := H.exs e
    refine ⟨hb1, fun X g s S Vs hb E Q q => wpAny_If (ts_ok (H.H.fx X) e1 g s S Vs _ rfl E _ fun b' s₁ g₁ S₁ l₁ q₁ p₁ => ?_)⟩
    subst p₁
    rw [if_neg (by decide)]
    refine a1 X g₁ s₁ S₁ (Vs.le l₁) (by rw [← S₁.la]; exact Nat.le_trans (by rw [S.la]; exact hb) l₁.as.length_le) E Q fun fl₂ s₂ g₂ X₂ S₂ l₂ q₂ p₂ Vs₂ => ?_
    exact q fl₂ s₂ g₂ X₂ S₂ ((l₁.leB _).trans l₂) (q₁.trans q₂) p₂ Vs₂
  · cases e
end Mine
end
section
open PySem PySem.W PyProof.Rows PySem.Calls PySem.SeqAt
set_option linter.unusedVariables false
namespace Mine
variable {G : Gl} {α β : Type} {c : Cx} {g : Gh} {s : Shared} {h h' h₁ h₂ : List O}
variable {T : Tab} {r : Rec} {n k : Nat} {ce : CE} {ρ ρ' : Rho} {v : V} {st st' : St} {fl : Fl}

/-! a loop's own private thing -/
theorem HypX.on (H : HypX G T r n c ce) (l : Led) : HypX G T r n (c.on l c.env) ce :=
  ⟨H.H.on (H.H.ok.on H.H.ok.ek H.H.ok.eg H.H.ok.eb) ⟨H.H.Ck.gl, H.H.Ck.glk, H.H.Ck.look, H.H.Ck.nd, H.H.Ck.loc, H.H.Ck.cell⟩, H.X, ⟨H.f.env, H.f.loc⟩, H.nd⟩
def FX.on {c : Cx} (X : FX c) (l : Led) (e : Env) : FX (c.on l e) := ⟨X.m, X.cells, X.cm, X.ok⟩
def FX.off {c : Cx} {l : Led} {e : Env} (X : FX (c.on l e)) : FX c := ⟨X.m, X.cells, X.cm, X.ok⟩
theorem Vars.unpriv {p : Addr × Obj} {names : List (Str × NameKind)} (f : FOk c) {H : Heap} (S : Sim G (c.with p) g h H) (Vs : Vars G (c.with p) g names ρ) : Vars G c g names ρ := by
  intro i x kd v h1 h2 h3
  obtain ⟨u, k1, k2⟩ := Vs i x kd v h1 h2 h3
  refine ⟨u, ?_, k2⟩
  rcases k1 with k1 | ⟨a, o, m', b, d⟩ | k1
  · exact .inl k1
  · exfalso
    have hm : (c.env.locals, o) ∈ ledOf (c.with p) g := by
      unfold ledOf
      exact List.mem_append_right _ (List.mem_append_left _ b)
    exact (S.news _ hm).2.1 f.loc
  · exact .inr (.inr k1)
theorem FOk.fx (f : FOk c) (X : FX c) : FOk (c.fx X) := ⟨f.env, f.loc⟩

/-! for x in a list or a tuple -/
def ForSt (G : Gl) (c : Cx) (names : List (Str × NameKind)) (r : Rec) (n : Nat) (tg : Tgt) (body : List S) (src : Srcs) (I : Addr) (fl : Fl) (st' : St) (g₀ : Gh) (s₀ : Shared) (f : Nat) (s : Shared) : Prop :=
  ∃ i st₁ g oI, ∃ X : FX c, forS r n tg body src f i st₁ = some (fl, st') ∧ Sim G ((c.fx X).with (I, oI)) g st₁.h s.heap ∧ g₀.le g ∧ Same s₀ s ∧ ItO G c g₀ src i oI ∧ Vars G ((c.fx X).with (I, oI)) g names st₁.r
theorem for_loop (H : HypX G T r n c ce) {t : PySem.Expr} {tg : Tgt} {body : List PySem.Stmt} {m : Nat} {src : Srcs} {I : Addr} {f : Nat} {g₀ : Gh} {R : Result → Shared → Prop} (ht : tgtOf ce t = some tg) (hm : g₀.as.length = m)
    (hs : ForSt G c ce.names r m tg (body.map (cS k ce)) src I fl st' g₀ s f s)
    (q : ∀ s' g' (X : FX c) fl', Sim G (c.fx X) g' st'.h s'.heap → g₀.le g' → Same s s' → FlR G c g' fl fl' → (fl = .next → Vars G (c.fx X) g' ce.names st'.r) → R (.ok fl') s') :
    codeAny (model G.prog G.w) c.A (.forLoop t (.ref I) body [] c.env) R s := by
  refine codeAny_forLoop_any (ForSt G c ce.names r m tg (body.map (cS k ce)) src I fl st' g₀ s) (fun f s₁ hI => ?_) f hs
  obtain ⟨i, st₁, g, oI, X, e, S, lg, sm, it, Vs⟩ := hI
  cases f with
  | zero => cases e
  | succ f =>
    unfold forS at e
    split at e
    · cases e
    · rename_i hnx
      cases e
      refine next_ok (c := c.fx X) (H.H.ok.st X.ok) S (ItO.hb (c := c) (c' := c.fx X) rfl (it.le lg)) hnx (fun s₂ _ S₂ q₂ => ?_) fun v u oI' s' hv => by cases hv
      exact wpAny_pure (q s₂ g X .next S₂ lg (sm.trans q₂) .next fun _ => Vs.unpriv (H.f.fx X) S)
    · rename_i v hnx
      refine next_ok (c := c.fx X) (H.H.ok.st X.ok) S (ItO.hb (c := c) (c' := c.fx X) rfl (it.le lg)) hnx (fun s₂ z => by cases z) fun v' u oI' s₂ hv rv S₂ q₂ it₂' => ?_
      cases hv
      have it₂ : ItO G c g₀ src (i + 1) oI' := ItO.hb (c := c.fx X) (c' := c) rfl (it₂' g₀ (ItO.hb (c := c) (c' := c.fx X) rfl it))
      split at e
      · cases e
      · rename_i r' hb
        refine go_ok (c := c) S₂.privAt it₂ ?_
        have H' := H.on [(I, oI')]
        have Vs₂ : Vars G ((c.fx X).with (I, oI')) g ce.names st₁.r := Vars.with (Vs.unpriv (H.f.fx X) S)
        refine tgt_ok H'.fam H.H.Ck.nd (x := X.on _ _) ht hb rv S₂ Vs₂ fun X' s₃ S₃ q₃ Vs₃ => ?_
        split at e
        · rename_i st₂ e1
          obtain ⟨hb2, a⟩ := H'.exs e1
          have hlen : m ≤ st₁.h.length := by rw [← S.la, ← hm]; exact lg.as.length_le
          refine a X' g s₃ S₃ Vs₃ hlen _ _ fun fl₄ s₄ g₄ X₄ S₄ l₄ q₄ p₄ Vs₄ => ?_
          cases p₄
          obtain ⟨g₅, S₅, Vs₅, l₅, hb5⟩ := cutTo_ok (n := m) S₄ (Vs₄ rfl) l₄
          refine ⟨f, Nat.lt_succ_self _, ⟨i + 1, _, g₅, oI', X₄.off, e, S₅, ?_, ((sm.trans q₂).trans q₃).trans q₄, it₂, Vs₅⟩⟩
          subst hm
          exact ((lg.leB _).trans l₅).le
        · rename_i v st₂ e1
          cases e
          obtain ⟨hb2, a⟩ := H'.exs e1
          have hlen : m ≤ st₁.h.length := by rw [← S.la, ← hm]; exact lg.as.length_le
          refine a X' g s₃ S₃ Vs₃ hlen _ _ fun fl₄ s₄ g₄ X₄ S₄ l₄ q₄ p₄ Vs₄ => ?_
          cases p₄ with
          | ret p =>
            refine q s₄ g₄ X₄.off _ (Sim.unpriv (c := c.fx X₄.off) S₄).1 ?_ (((sm.trans q₂).trans q₃).trans q₄) (.ret p) fun z => by cases z
            subst hm
            exact ((lg.leB _).trans l₄).le
        · cases e
end Mine
end
section
open PySem PySem.W PyProof.Rows PySem.Calls PySem.SeqAt
set_option linter.unusedVariables false
namespace Mine
variable {G : Gl} {α β : Type} {c : Cx} {g : Gh} {s : Shared} {h h' h₁ h₂ : List O}
variable {T : Tab} {r : Rec} {n k : Nat} {ce : CE} {ρ ρ' : Rho} {v : V} {st st' : St} {fl : Fl}

theorem ex_for (H : HypX G T r n c ce) {t it : PySem.Expr} {tg : Tgt} {body : List PySem.Stmt} {pos : Pos} (ht : tgtOf ce t = some tg) (e : stepEx r (.for_ tg (cE k ce it) (body.map (cS k ce))) st = some (fl, st')) :
    ExX G c ce.names (.For t it body [] pos) st fl st' := by
  unfold stepEx at e
  dsimp only at e
  split at e
  · cases e
  · rename_i v h1 e1
    split at e
    · cases e
    · rename_i src f e2
      split at e
      · cases e
      · rename_i fl' st₂ e3
        cases e
        refine ⟨rfl, fun X g s S Vs hb E Q q => ?_⟩
        refine wpAny_For ((H.evx X e1) g s S Vs E _ fun u s₁ g₁ S₁ l₁ q₁ p₁ => ?_) (fun u => notSet (H.H.fx X) e1 _ u)
        refine iter_ok (c := c.fx X) (H.H.fx X).ok S₁ p₁ e2 fun oI s₂ S₂ q₂ it₂ _ => ?_
        refine for_loop H ht (g₀ := g₁) S₁.la (f := f) ⟨0, _, g₁, oI, X, e3, S₂, .refl _, .refl _, ItO.hb (c := c.fx X) (c' := c) rfl it₂, (Vs.le l₁).with⟩ fun s' g' X' fl' S' l' q' p' Vs' => ?_
        exact q fl' s' g' X' S' ((l₁.trans l').leB _) ((q₁.trans q₂).trans q') p' Vs'

/-! while -/
def WhSt (G : Gl) (c : Cx) (names : List (Str × NameKind)) (r : Rec) (n : Nat) (t : E) (body : List S) (fl : Fl) (st' : St) (g₀ : Gh) (s₀ : Shared) (f : Nat) (s : Shared) : Prop :=
  ∃ st₁ g, ∃ X : FX c, whileL r n t body f st₁ = some (fl, st') ∧ Sim G (c.fx X) g st₁.h s.heap ∧ g₀.le g ∧ Same s₀ s ∧ Vars G (c.fx X) g names st₁.r
theorem ex_while (H : HypX G T r n c ce) {t : PySem.Expr} {body : List PySem.Stmt} {pos : Pos} (e : stepEx r (.while_ (cE k ce t) (body.map (cS k ce))) st = some (fl, st')) : ExX G c ce.names (.While t body [] pos) st fl st' := by
  unfold stepEx at e
  dsimp only at e
  split at e
  case h_2 => cases e
  rename_i fl' st₂ e3
  cases e
  refine ⟨rfl, fun X g s S Vs hb E Q q => ?_⟩
  refine wpAny_While ?_
  refine codeAny_whileLoop (WhSt G c ce.names r st.h.length (cE k ce t) (body.map (cS k ce)) fl st₂ g s) (fun f s₁ hI => ?_) 64 ⟨st, g, X, e3, S, .refl _, .refl _, Vs⟩
  obtain ⟨st₁, g₁, X₁, e, S₁, l₁, q₁, Vs₁⟩ := hI
  have hm : g.as.length = st.h.length := S.la
  cases f with
  | zero => cases e
  | succ f =>
    unfold whileL at e
    split at e
    · cases e
    · rename_i h2 e2
      cases e
      refine ts_ok (H.H.fx X₁) e2 g₁ s₁ S₁ Vs₁ _ rfl _ _ fun b' s₂ g₂ S₂ l₂ q₂ p₂ => ?_
      subst p₂
      rw [if_neg (by decide)]
      exact wpAny_pure (q .next s₂ g₂ X₁ S₂ ((l₁.trans l₂).leB _) (q₁.trans q₂) .next fun _ => Vs₁.le l₂)
    · rename_i h2 e2
      refine ts_ok (H.H.fx X₁) e2 g₁ s₁ S₁ Vs₁ _ rfl _ _ fun b' s₂ g₂ S₂ l₂ q₂ p₂ => ?_
      subst p₂
      rw [if_pos rfl]
      have hlen : st.h.length ≤ h2.length := by rw [← S₂.la, ← hm]; exact (l₁.trans l₂).as.length_le
      split at e
      · rename_i st₃ e4
        obtain ⟨hb2, a⟩ := H.exs e4
        refine a X₁ g₂ s₂ S₂ (Vs₁.le l₂) hlen _ _ fun fl₄ s₄ g₄ X₄ S₄ l₄ q₄ p₄ Vs₄ => ?_
        cases p₄
        obtain ⟨g₅, S₅, Vs₅, l₅, hb5⟩ := cutTo_ok (n := st.h.length) S₄ (Vs₄ rfl) l₄
        refine ⟨f, Nat.lt_succ_self _, ⟨_, g₅, X₄, e, S₅, ?_, (q₁.trans q₂).trans q₄, Vs₅⟩⟩
        rw [← hm] at l₅
        exact (((l₁.trans l₂).leB _).trans l₅).le
      · rename_i v st₃ e4
        cases e
        obtain ⟨hb2, a⟩ := H.exs e4
        refine a X₁ g₂ s₂ S₂ (Vs₁.le l₂) hlen _ _ fun fl₄ s₄ g₄ X₄ S₄ l₄ q₄ p₄ Vs₄ => ?_
        cases p₄ with
        | ret p =>
          refine q _ s₄ g₄ X₄ S₄ ?_ ((q₁.trans q₂).trans q₄) (.ret p) fun z => by cases z
          rw [← hm] at l₄
          exact (((l₁.trans l₂).leB _).trans l₄).le.leB _
      · cases e

/-! for i in range(n) -/
def rngObj (k : Int) (t₁ t₂ t₃ : Tok) : Obj := { cls := .type "range", dict := none, data := .fields #[.int 0 t₁, .int k t₂, .int 1 t₃], slots := #[] }
def ritObj (i j : Int) : Obj := { cls := .type "range_iterator", dict := none, data := .fields #[rawInt i, rawInt j, rawInt 1], slots := #[] }
def RnSt (G : Gl) (c : Cx) (names : List (Str × NameKind)) (r : Rec) (n : Nat) (i : Nat) (body : List S) (I : Addr) (fl : Fl) (st' : St) (g₀ : Gh) (s₀ : Shared) (f : Nat) (s : Shared) : Prop :=
  ∃ j st₁ g, ∃ X : FX c, forRL r n i body j f st₁ = some (fl, st') ∧ Sim G ((c.fx X).with (I, ritObj j f)) g st₁.h s.heap ∧ g₀.le g ∧ Same s₀ s ∧ Vars G ((c.fx X).with (I, ritObj j f)) g names st₁.r
theorem ex_forR (H : HypX G T r n c ce) {t it arg : PySem.Expr} {i : Nat} {body : List PySem.Stmt} {pos : Pos} (ht : nameSlot ce t = some i) (hi : rngArg ce it = some arg) (e : stepEx r (.forR i (cE k ce arg) (body.map (cS k ce))) st = some (fl, st')) :
    ExX G c ce.names (.For t it body [] pos) st fl st' := by
  unfold rngArg at hi
  split at hi
  case h_2 => cases hi
  rename_i x xp arg' p
  split at hi
  case isFalse => cases hi
  rename_i hc
  split at hi
  case h_2 => cases hi
  rename_i hx
  cases hi
  obtain ⟨hg, hr, hp⟩ : isGl x ce.names = true ∧ reserved x = false ∧ plainArg arg = true := by
    have a := Bool.and_eq_true_iff.mp hc
    have b := Bool.and_eq_true_iff.mp a.2
    exact ⟨a.1, by simpa using b.1, b.2⟩
  unfold stepEx at e
  dsimp only at e
  split at e
  · cases e
  rename_i v h1 e1
  split at e
  · cases e
  rename_i m e2
  split at e
  case h_2 => cases e
  rename_i fl' st₂ e3
  cases e
  have hm : ∃ mm, m = mm ∧ v = .d (.int (.ofNat m)) ∧ m ≤ lim := by
    unfold natOf at e2
    split at e2
    · split at e2
      · rename_i hl; cases e2; exact ⟨_, rfl, rfl, Nat.le_of_ble_eq_true hl⟩
      · cases e2
    · cases e2
  obtain ⟨_, _, rfl, hml⟩ := hm
  refine ⟨rfl, fun X g s S Vs hb E Q q => ?_⟩
  have gx : GvOk G x .rng := H.H.Ck.gl _ _ hx
  have He := H.H.fx X
  have xs1 : EvXs G (c.fx X) ce.names st.r [arg] st.h [.d (.int (.ofNat m))] h1 := .cons _ _ _ _ _ _ _ (H.evx X e1) (.nil _)
  refine wpAny_For ?_ (fun _ => rfl)
  refine Call_ (ev_builtin (c := c.fx X) (P := fun g' u => u = .type "range" ∧ g' = g) He.ok S (He.Ck.glk _ hg) hr gx.1 gx.2.1 gx.2.2 ⟨rfl, rfl⟩ E _ fun u s₁ g₁ S₁ l₁ q₁ p₁ => ?_)
  obtain ⟨rfl, rfl⟩ := p₁
  refine callWith_ok (ce := ce) (P := fun g' u => ∃ a t₁ t₂ t₃, u = .ref a ∧ (a, rngObj m t₁ t₂ t₃) ∈ g'.Z) (h₂ := h1) He.ok (f := .type "range") trivial (first := []) S₁ Vs (by simp [hp]) xs1 (fun us s₂ g₂ S₂ l₂ q₂ p₂ => ?_) E _ fun u s₃ g₃ S₃ l₃ q₃ p₃ => ?_
  · cases p₂ with
    | cons p₂ p₃ =>
      cases p₃
      obtain ⟨tk, rfl⟩ := rd_int (h := []) p₂ rfl
      intro E Q q
      refine call_range_1 ?_
      have S₃ := Sim.freeze (s := s₂) S₂ (S₂.fr.push (rngObj m s₂.toks tk (s₂.toks + 1))) (S₂.news.push S₂.fr (rngObj m s₂.toks tk (s₂.toks + 1)) rfl) S₂.lt
      exact q _ _ _ S₃ (Gh.le_freeze _ _) ⟨rfl, rfl⟩ ⟨_, _, _, _, rfl, .head _⟩
  · obtain ⟨a, t₁, t₂, t₃, rfl, hz⟩ := p₃
    have hR : IsRange s₃.heap a 0 m 1 t₁ t₂ t₃ := S₃.here (S₃.inZ hz)
    have hsm : Builtin.Range.small 0 (m : Int) 1 = true := small_one (by decide) (by decide) (by omega) (by unfold lim at hml; omega)
    refine wpAny_pyIter_range hR hsm ?_
    have hsz : Builtin.Range.rangeSize 0 (m : Int) 1 = (m : Int) := by rw [rangeSize_nat]; omega
    rw [hsz]
    have S₄ : Sim G ((c.fx X).with (s₃.heap.objs.size, ritObj (0 : Nat) m)) g₃ h1 (s₃.heap.push (ritObj (0 : Nat) m)) := S₃.privPush rfl
    have ll := l₁.trans l₃
    have hlen : g₃.as.length = h1.length := S₃.la
    refine codeAny_forLoop_any (RnSt G c ce.names r h1.length i (body.map (cS k ce)) s₃.heap.objs.size fl st₂ g₃ { s₃ with heap := s₃.heap.push (ritObj (0 : Nat) m) }) (fun f s₄ hI => ?_) m ⟨0, _, g₃, X, e3, S₄, .refl _, .refl _, (Vs.le l₃).with⟩
    obtain ⟨j, st₁, g₄, X₁, e, S₅, l₅, q₅, Vs₅⟩ := hI
    cases f with
    | zero =>
      cases e
      refine wpAny_pyNext_range_end (A := c.A) H.H.ok.hh (x := j) (left := ((0 : Nat) : Int)) (step := 1) S₅.privAt (by omega) fun h' he => ?_
      have S₆ := S₅.privDrop he
      refine wpAny_pure (q .next { s₄ with heap := h' } g₄ X₁ S₆ ((l₃.trans l₅).leB _) ?_ .next fun _ => Vs₅.unpriv (H.f.fx X₁) S₅)
      exact ⟨q₅.os.trans (q₃.os.trans q₁.os), q₅.gens.trans (q₃.gens.trans q₁.gens)⟩
    | succ f =>
      unfold forRL at e
      refine wpAny_pyNext_range_item (x := j) (left := ((f + 1 : Nat) : Int)) (step := 1) S₅.privAt (by omega) fun h' hit hs => ?_
      have hit' : h'.get? s₃.heap.objs.size = some (ritObj (j + 1 : Nat) f) := by
        have : (((f + 1 : Nat) : Int) - 1) = (f : Int) := by omega
        rw [this] at hit; exact hit
      have S₆ := S₅.privSet hs hit'
      cases t <;> try (cases ht; done)
      rename_i y yp
      have hlt : ∀ u, letOwnedTupleGo (.Name y yp) (.ref s₃.heap.objs.size) u = pure () := fun _ => rfl
      refine wpAny_of_eq (hlt _) ?_
      have H' := H.on [(s₃.heap.objs.size, ritObj (j + 1 : Nat) f)]
      have Vs₆ : Vars G ((c.fx X₁).with (s₃.heap.objs.size, ritObj (j + 1 : Nat) f)) g₄ ce.names st₁.r := Vars.with (Vs₅.unpriv (H.f.fx X₁) S₅)
      refine tgt_ok (s := { s₄ with heap := h', toks := s₄.toks + 1 }) (v := bI j) (ρ' := st₁.r.set i (some (bI j))) H'.fam H.H.Ck.nd (x := X₁.on _ _) (t := .Name y yp) (tg := .one i) (by unfold tgtOf; dsimp only; rw [show storeSlot ce y = some i from ht]) rfl (.d (.int _ _)) S₆ Vs₆ fun X' s₇ S₇ q₇ Vs₇ => ?_
      have hlen' : h1.length ≤ st₁.h.length := by rw [← S₅.la, ← hlen]; exact l₅.as.length_le
      split at e
      · rename_i st₃ e4
        obtain ⟨hb2, a⟩ := H'.exs e4
        refine a X' g₄ s₇ S₇ Vs₇ hlen' _ _ fun fl₈ s₈ g₈ X₈ S₈ l₈ q₈ p₈ Vs₈ => ?_
        cases p₈
        obtain ⟨g₉, S₉, Vs₉, l₉, hb9⟩ := cutTo_ok (n := h1.length) S₈ (Vs₈ rfl) l₈
        refine ⟨f, Nat.lt_succ_self _, ⟨j + 1, _, g₉, X₈.off, e, S₉, ?_, ?_, Vs₉⟩⟩
        · rw [← hlen] at l₉
          exact ((l₅.leB _).trans l₉).le
        · exact ⟨q₈.os.trans (q₇.os.trans q₅.os), q₈.gens.trans (q₇.gens.trans q₅.gens)⟩
      · rename_i v st₃ e4
        cases e
        obtain ⟨hb2, a⟩ := H'.exs e4
        refine a X' g₄ s₇ S₇ Vs₇ hlen' _ _ fun fl₈ s₈ g₈ X₈ S₈ l₈ q₈ p₈ Vs₈ => ?_
        cases p₈ with
        | ret p =>
          refine q _ s₈ g₈ X₈.off (Sim.unpriv (c := c.fx X₈.off) S₈).1 ?_ ?_ (.ret p) fun z => by cases z
          · rw [← hlen] at l₈
            exact (l₃.trans ((l₅.leB _).trans l₈).le).leB _
          · exact ⟨q₈.os.trans (q₇.os.trans (q₅.os.trans (q₃.os.trans q₁.os))), q₈.gens.trans (q₇.gens.trans (q₅.gens.trans (q₃.gens.trans q₁.gens)))⟩
      · cases e
end Mine
end
section
open PySem PySem.W PyProof.Rows PySem.Calls PySem.SeqAt
set_option linter.unusedVariables false
namespace Mine
variable {G : Gl} {α β : Type} {c : Cx} {g : Gh} {s : Shared} {h h' h₁ h₂ : List O}
variable {T : Tab} {r : Rec} {n k : Nat} {ce : CE} {ρ ρ' : Rho} {v : V} {st st' : St} {fl : Fl} {sc : Scope}

theorem Vars.unp1 {p : Addr × Obj} {names : List (Str × NameKind)} (f : FOk c) (hp : p.1 ≠ c.L) (Vs : Vars G (c.with p) g names ρ) : Vars G c g names ρ := by
  intro i x kd v h1 h2 h3
  obtain ⟨u, k1, k2⟩ := Vs i x kd v h1 h2 h3
  refine ⟨u, ?_, k2⟩
  rcases k1 with k1 | ⟨a, o, m', b, d⟩ | k1
  · exact .inl k1
  · refine .inr (.inl ⟨a, o, m', ?_, d⟩)
    have b' : (c.env.locals, o) ∈ p :: c.pri := b
    rcases List.mem_cons.mp b' with z | z
    · exfalso; apply hp; rw [← z]; exact f.loc
    · exact z
  · exact .inr (.inr k1)

theorem use_store (H : HypX G T r n c ce) (X : FX c) {C D : Addr} {oC oD : Obj} {x : Str} {p : Pos} {i : Nat} {m : Str → Option Value} {E : Value → Shared → Prop} {Q' : Shared → Prop} (hi : storeSlot ce x = some i)
    (S : Sim G ((c.fx X).on [(C, oC), (D, oD)] c.env) g h s.heap) (no : NsO oC m) (Vs : Vars G (c.fx X) g ce.names ρ)
    (fin : ∀ (c' : Cx) (s' : Shared), c'.hb = c.hb → Sim G (c'.with (D, oD)) g h s'.heap → ∃ g', Sim G c' g' h' s'.heap ∧ g.le g' ∧ VV G c' g' v (.ref D))
    (q : ∀ s' g' X', Sim G (c.fx X') g' h' s'.heap → g.le g' → Same s s' → Vars G (c.fx X') g' ce.names (ρ.set i (some v)) → Q' s') :
    wpAny (model G.prog G.w) c.A (assign (.Name x p) c.env (.ref D)) (fun _ s'' => ∃ m, s''.heap.Ns C m ∧ ∀ h'', Heap.SameBut C s''.heap h'' → Q' { s'' with heap := h'' }) E s := by
  have H' := H.on [(C, oC), (D, oD)]
  refine assign_Name (H'.fam.store (X.on _ _) x i g h s (.ref D) E _ hi S fun X' s₁ S₁ q₁ k1 k2 => ?_)
  have S₂ : Sim G (((c.fx X'.off).on [(D, oD)] c.env).with (C, oC)) g h s₁.heap := S₁
  obtain ⟨es, ep, d1, d2, d3⟩ := no
  refine ⟨m, ⟨oC, es, ep, S₂.privAt, d1, d2, d3⟩, fun h'' hs => ?_⟩
  have S₃ : Sim G ((c.fx X'.off).with (D, oD)) g h h'' := Sim.off0 (S₂.privDrop hs.extBut)
  obtain ⟨g', S₄, l₄, rv⟩ := fin (c.fx X'.off) { s₁ with heap := h'' } rfl S₃
  refine q { s₁ with heap := h'' } g' X'.off S₄ l₄ ⟨q₁.os, q₁.gens⟩ ?_
  have hC : C ≠ c.L := (S.news (C, oC) (by unfold ledOf Cx.on; simp)).2.1
  have hD : D ≠ c.L := (S.news (D, oD) (by unfold ledOf Cx.on; simp)).2.1
  have V1 : Vars G ((c.on [(C, oC), (D, oD)] c.env).fx (X.on _ _)) g' ce.names ρ := Vars.with (p := (C, oC)) (Vars.with (p := (D, oD)) (Vs.le l₄))
  have V2 : Vars G ((c.on [(C, oC), (D, oD)] c.env).fx X') g' ce.names (ρ.set i (some v)) := Vars.store (c := (c.on [(C, oC), (D, oD)] c.env).fx (X.on _ _)) (c' := (c.on [(C, oC), (D, oD)] c.env).fx X') V1 H.H.Ck.nd rfl hi k1 k2 rv
  have V3 : Vars G ((c.fx X'.off).with (D, oD)) g' ce.names (ρ.set i (some v)) := Vars.unp1 (c := (c.fx X'.off).with (D, oD)) (p := (C, oC)) ⟨H.f.env, H.f.loc⟩ hC V2
  exact Vars.unp1 (c := c.fx X'.off) (p := (D, oD)) ⟨H.f.env, H.f.loc⟩ hD V3

theorem ex_asg' (H : HypX G T r n c ce) {x : Str} {p pos : Pos} {value : PySem.Expr} {i : Nat} (hi : storeSlot ce x = some i) (hc : swapsWith value (some (.Name x p)) pos.line c.env = pure false) (e : stepEx r (.asg i (cE k ce value)) st = some (fl, st')) :
    ExX G c ce.names (.Assign [.Name x p] value pos) st fl st' := by
  unfold stepEx at e
  dsimp only at e
  split at e
  · rename_i v h1 e1
    cases e
    refine ⟨rfl, fun X g s S Vs hb E Q q => ?_⟩
    refine assign_plain rfl hc ((H.evx X e1) g s S Vs E _ fun u s₁ g₁ S₁ l₁ q₁ p₁ => assign_Name ?_)
    refine H.fam.store X x i g₁ h1 s₁ u E _ hi S₁ fun X' s₂ S₂ q₂ k1 k2 => ?_
    exact q .next s₂ g₁ X' S₂ (l₁.leB _) (q₁.trans q₂) .next fun _ => (Vs.le l₁).store H.H.Ck.nd rfl hi k1 k2 p₁
  · cases e

theorem ex_asgL (H : HypX G T r n c ce) {x : Str} {p pos : Pos} {elt iter t : PySem.Expr} {ifs : List PySem.Expr} {cp : Pos} {i n' : Nat} {r' : Rec} (hi : storeSlot ce x = some i) {k : Nat}
    (H2 : Hyp G T r' n' c ce) (hsw : swapsWith (.ListComp elt [⟨t, iter, ifs, 0⟩] sc cp) (some (.Name x p)) pos.line c.env = pure true) {h' : List O}
    (e : stepEv T r' (cE (k + 1) ce (.ListComp elt [⟨t, iter, ifs, 0⟩] sc cp)) st.r st.h = some (v, h')) :
    ExX G c ce.names (.Assign [.Name x p] (.ListComp elt [⟨t, iter, ifs, 0⟩] sc cp) pos) st .next ⟨st.b, h', st.r.set i (some v)⟩ := by
  obtain ⟨tg, ini, v₁, h₁, src, f, total, h₂, mu, P, e1, e2, e3, e4⟩ := comp_split H2 e
  refine ⟨rfl, fun X g s S Vs hb E Q q => ?_⟩
  have HX := H2.fx X
  obtain ⟨cl, hcl, K⟩ := comp_ok HX P.hk P.sok P.hi
  rw [exec_Assign_Name_used _ _ _ _ hsw]
  refine wpAny_bind (wpAny_standAt (wpAny_bind ?_))
  show wpAny _ c.A (do let _ ← comprehension (.ListComp elt [⟨t, iter, ifs, 0⟩] sc cp) sc c.env _ (newList []) false (eval iter c.env) (some (assign (.Name x p) c.env))) _ _ s
  refine wpAny_bind (wpAny_mono (wpAny_comprehension_free (use := some (assign (.Name x p) c.env)) (Q := fun _ s' => Q .next s') rfl (fun u => notSet HX e1 _ u) hcl K.kind (fun x hx hl => hl ▸ (scopeOk_mem K.sok hx).1) ?_) (fun _ s' hq => wpAny_pure (wpAny_pure hq)) fun _ _ e => e)
  refine HX.ev e1 g s S Vs E _ fun u s₁ g₁ S₁ l₁ q₁ p₁ => ?_
  refine comp_core HX K P.ht P.hi e2 p₁ S₁ (Vs.le l₁) e3 fun D C s' g' oC m ys nn S' l' q' no rvs => ?_
  refine use_store H X (v := v) (h' := h') (m := m) (Q' := fun s' => Q .next s') hi S' no (Vs.le (l₁.trans l')) (fun c' s'' hh S'' => ?_) fun s'' g'' X'' S'' l'' q'' Vs'' => ?_
  · have rvs' : VVs G c' g' total ys.toList := by unfold VVs; rw [hh]; exact rvs
    exact listDone S'' rvs' e4
  · exact q .next s'' g'' X'' S'' (((l₁.trans l').trans l'').leB _) ((q₁.trans q').trans q'') .next fun _ => Vs''

theorem dcomp_split (H : Hyp G T r n c ce) {ke ve iter : PySem.Expr} {x : Str} {px : Pos} {ifs : List PySem.Expr} {pos : Pos} (e : stepEv T r (cE (k + 1) ce (.DictComp ke ve [⟨.Name x px, iter, ifs, 0⟩] sc pos)) ρ h = some (v, h')) :
    ∃ tg ini mm h₁ total, storeSlot { ce with names := sc.names } x = some tg ∧ initOf ce.names sc.names = some ini ∧ fnKind sc = true ∧ scopeOk sc.names = true ∧ r.ev (cE k ce iter) ρ h = some (.idict mm, h₁) ∧
      dcompL r (cE k { ce with names := sc.names } ke) (cE k { ce with names := sc.names } ve) tg (ifs.map (cE k { ce with names := sc.names })) (mm.map (·.1)) (initR ρ ini) h₁ [] = some (total, h') ∧ v = .idict total := by
  have eq : cE (k + 1) ce (.DictComp ke ve [⟨.Name x px, iter, ifs, 0⟩] sc pos) = (match storeSlot { ce with names := sc.names } x, initOf ce.names sc.names, fnKind sc && scopeOk sc.names with
      | some t, some ini, true => .dcomp (cE k { ce with names := sc.names } ke) (cE k { ce with names := sc.names } ve) t (cE k ce iter) (ifs.map (cE k { ce with names := sc.names })) ini
      | _, _, _ => .fail) := rfl
  rw [eq] at e
  split at e
  · rename_i tg ini h1 h2 h3
    have h3' := Bool.and_eq_true_iff.mp h3
    unfold stepEv at e
    dsimp only at e
    split at e
    · rename_i mm h₁ e1
      split at e
      · split at e
        · cases e
        · rename_i total h₂ e2
          cases e
          exact ⟨tg, ini, mm, h₁, total, h1, h2, h3'.1, h3'.2, e1, e2, rfl⟩
      · cases e
    · cases e
  · cases e
theorem ex_asgD (H : HypX G T r n c ce) {y : Str} {p pos : Pos} {ke ve iter : PySem.Expr} {x : Str} {px : Pos} {ifs : List PySem.Expr} {cp : Pos} {i n' : Nat} {r' : Rec} (hi : storeSlot ce y = some i) {k : Nat}
    (H2 : Hyp G T r' n' c ce) (hsw : swapsWith (.DictComp ke ve [⟨.Name x px, iter, ifs, 0⟩] sc cp) (some (.Name y p)) pos.line c.env = pure true) {h' : List O}
    (e : stepEv T r' (cE (k + 1) ce (.DictComp ke ve [⟨.Name x px, iter, ifs, 0⟩] sc cp)) st.r st.h = some (v, h')) :
    ExX G c ce.names (.Assign [.Name y p] (.DictComp ke ve [⟨.Name x px, iter, ifs, 0⟩] sc cp) pos) st .next ⟨st.b, h', st.r.set i (some v)⟩ := by
  obtain ⟨tg, ini, mm, h₁, total, d1, d2, d3, d4, e1, e2, rfl⟩ := dcomp_split H2 e
  refine ⟨rfl, fun X g s S Vs hb E Q q => ?_⟩
  have HX := H2.fx X
  obtain ⟨cl, hcl, K⟩ := comp_ok HX d3 d4 d2
  rw [exec_Assign_Name_used _ _ _ _ hsw]
  refine wpAny_bind (wpAny_standAt (wpAny_bind ?_))
  show wpAny _ c.A (do let _ ← comprehension (.DictComp ke ve [⟨.Name x px, iter, ifs, 0⟩] sc cp) sc c.env _ newDict false (eval iter c.env) (some (assign (.Name y p) c.env))) _ _ s
  refine wpAny_bind (wpAny_mono (wpAny_comprehension_free (use := some (assign (.Name y p) c.env)) (Q := fun _ s' => Q .next s') rfl (fun u => notSet HX e1 _ u) hcl K.kind (fun x hx hl => hl ▸ (scopeOk_mem K.sok hx).1) ?_) (fun _ s' hq => wpAny_pure (wpAny_pure hq)) fun _ _ e => e)
  refine HX.ev e1 g s S Vs E _ fun u s₁ g₁ S₁ l₁ q₁ p₁ => ?_
  refine dcomp_core HX K d1 d2 p₁ S₁ (Vs.le l₁) e2 fun D C s' g' oC oD m kv S' l' q' no hdo hpd hsys => ?_
  refine use_store H X (v := .idict total) (h' := h') (m := m) (Q' := fun s' => Q .next s') hi S' no (Vs.le (l₁.trans l')) (fun c' s'' hh S'' => ?_) fun s'' g'' X'' S'' l'' q'' Vs'' => ?_
  · obtain ⟨S₄, N₄, ap⟩ := S''.unpriv
    exact ⟨_, Sim.freezeN S₄ S₄.fr N₄ ap, Gh.le_freeze _ _, .idict (.inr (.head _)) hsys hdo (hpd.mono fun _ _ q => q.mono (by rw [hh]; exact Kn.mono fun _ q => .tail _ q))⟩
  · exact q .next s'' g'' X'' S'' (((l₁.trans l').trans l'').leB _) ((q₁.trans q').trans q'') .next fun _ => Vs''

theorem ex_asgAll (H : HypX G T r n c ce) {x : Str} {p pos : Pos} {value : PySem.Expr} {i : Nat} (hi : storeSlot ce x = some i) (e : stepEx r (.asg i (cE k ce value)) st = some (fl, st')) :
    ExX G c ce.names (.Assign [.Name x p] value pos) st fl st' := by
  by_cases hc : notComp value = true
  · exact ex_asg H hi hc e
  · have e' := e
    unfold stepEx at e'
    dsimp only at e'
    split at e'
    case h_2 => cases e'
    rename_i v h1 e1
    obtain ⟨r', n', e2, hn, IH'⟩ := H.X.unf _ _ _ _ e1
    have H2 : Hyp G T r' n' c ce := ⟨IH', H.H.ok, hn ▸ H.H.Rn, H.H.Ck, H.H.CK⟩
    have bad : ∀ {k'}, k = k' → cE k' ce value = .fail → ExX G c ce.names (.Assign [.Name x p] value pos) st fl st' := fun hk z => by
      subst hk
      rw [z, H.H.IH.fail] at e1; cases e1
    have stuck : ∀ {b : Bool}, swapsWith value (some (.Name x p)) pos.line c.env = pure b → b = false → ExX G c ce.names (.Assign [.Name x p] value pos) st fl st' := fun a b => ex_asg' H hi (b ▸ a) e
    cases k with
    | zero => exact bad rfl (cE_zero _)
    | succ k =>
      cases e'
      cases value with
      | ListComp elt gens sc cp =>
        obtain ⟨b, hb⟩ : ∃ b, swapsWith (.ListComp elt gens sc cp) (some (.Name x p)) pos.line c.env = pure b := ⟨_, rfl⟩
        cases b with
        | false => exact stuck hb rfl
        | true =>
          match gens, hb with
          | [⟨t, it, ifs, .ofNat 0⟩], hb => exact ex_asgL H hi H2 hb e2
          | [], _ => exact bad rfl rfl
          | [⟨t, it, ifs, .ofNat (i + 1)⟩], _ => exact bad rfl rfl
          | [⟨t, it, ifs, .negSucc i⟩], _ => exact bad rfl rfl
          | ⟨t, it, ifs, i⟩ :: _ :: _, _ => exact bad rfl (by cases i with | ofNat m => (cases m <;> rfl) | negSucc m => rfl)
      | DictComp kk vv gens sc cp =>
        obtain ⟨b, hb⟩ : ∃ b, swapsWith (.DictComp kk vv gens sc cp) (some (.Name x p)) pos.line c.env = pure b := ⟨_, rfl⟩
        cases b with
        | false => exact stuck hb rfl
        | true =>
          match gens, hb with
          | [⟨t, it, ifs, .ofNat 0⟩], hb =>
            cases t with
            | Name y py => exact ex_asgD H hi H2 hb e2
            | _ => exact bad rfl rfl
          | [], _ => exact bad rfl rfl
          | [⟨t, it, ifs, .ofNat (i + 1)⟩], _ => exact bad rfl (by cases t <;> rfl)
          | [⟨t, it, ifs, .negSucc i⟩], _ => exact bad rfl (by cases t <;> rfl)
          | ⟨t, it, ifs, i⟩ :: _ :: _, _ => exact bad rfl (by cases t <;> first | rfl | (cases i with | ofNat m => (cases m <;> rfl) | negSucc m => rfl))
      | SetComp a b d f => exact bad rfl rfl
      | _ => exact absurd rfl hc

theorem last_name {x : PySem.Expr} {i : Nat} (e : lastName ce x = some i) : ∃ y p, x = .Name y p ∧ reserved y = false ∧ slotAt y ce.names 0 = some i := by
  unfold lastName at e
  split at e
  · rename_i y p
    split at e
    · rename_i hc
      have := (Bool.and_eq_true_iff.mp hc).2
      exact ⟨y, p, rfl, by simpa using this, e⟩
    · cases e
  · cases e
theorem slot_name (H : Hyp G T r n c ce) {y : Str} {p : Pos} {i : Nat} (hr : reserved y = false) (hs : slotAt y ce.names 0 = some i) (hv : ρ[i]? = some (some v)) : EvX G c ce.names (.Name y p) ρ h v h := by
  intro g s S Vs
  obtain ⟨kk, h1, h2⟩ := H.Ck.look y i hs
  obtain ⟨u, h3, h4⟩ := Vs i y kk _ h1 h2 hv
  exact ev_name H.ok S h3 hr h4

theorem ex_retM (H : HypX G T r n c ce) {x : PySem.Expr} {pos : Pos} {i : Nat} (hi : lastName ce x = some i) (e : stepEx r (.retM i) st = some (fl, st')) : ExX G c ce.names (.Return (some x) pos) st fl st' := by
  obtain ⟨y, p, rfl, hr, hs⟩ := last_name hi
  unfold stepEx at e
  dsimp only at e
  split at e
  case h_2 => cases e
  rename_i m hv
  split at e
  case isFalse => cases e
  rename_i hc
  have hc1 := Bool.and_eq_true_iff.mp hc
  have hc2 := Bool.and_eq_true_iff.mp hc1.1
  have hbm : st.b ≤ m := Nat.le_of_ble_eq_true hc2.1
  have hml : m + 1 = st.h.length := Nat.eq_of_beq_eq_true hc2.2
  split at e
  · rename_i l hl
    cases e
    refine ⟨rfl, fun X g s S Vs hb E Q q => wpAny_Return_some (slot_name (H.H.fx X) hr hs hv g s S Vs E _ fun u s₁ g₁ S₁ l₁ q₁ p₁ => ?_)⟩
    cases p₁ with
    | loc ha =>
      obtain ⟨a, b, h1, h2, S₂⟩ := S₁.takeLast hml hc1.2 hl
      rw [h1] at ha; cases ha
      cases h2 with
      | list rd =>
        refine q _ s₁ _ X S₂ ⟨?_, fun p hp => List.mem_append_right _ (l₁.Z p hp)⟩ q₁ (.ret (.d (.list (.inr (List.mem_append_left _ (.head _))) rfl rfl (rd.mono (Kn.mono fun _ q => List.mem_append_right _ q))))) fun z => by cases z
        have z1 := (l₁.leB st.b).as
        refine (pre_take z1 (by rw [List.length_take]; exact Nat.le_trans (Nat.min_le_left _ _) hbm))
  · rename_i l hl
    cases e
    refine ⟨rfl, fun X g s S Vs hb E Q q => wpAny_Return_some (slot_name (H.H.fx X) hr hs hv g s S Vs E _ fun u s₁ g₁ S₁ l₁ q₁ p₁ => ?_)⟩
    cases p₁ with
    | loc ha =>
      obtain ⟨a, b, h1, h2, S₂⟩ := S₁.takeLast hml hc1.2 hl
      rw [h1] at ha; cases ha
      cases h2 with
      | idict z0 z1 z2 =>
        refine q _ s₁ _ X S₂ ⟨?_, fun p hp => List.mem_append_right _ (l₁.Z p hp)⟩ q₁ (.ret (.idict (.inr (List.mem_append_left _ (.head _))) z0 z1 (z2.mono fun _ _ q => q.mono (Kn.mono fun _ q => List.mem_append_right _ q)))) fun z => by cases z
        have z1 := (l₁.leB st.b).as
        refine (pre_take z1 (by rw [List.length_take]; exact Nat.le_trans (Nat.min_le_left _ _) hbm))
  · cases e
end Mine
end
section
open PySem PySem.W PyProof.Rows PySem.Calls PySem.SeqAt
set_option linter.unusedVariables false
namespace Mine
variable {G : Gl} {α β : Type} {c : Cx} {g : Gh} {s : Shared} {h h' h₁ h₂ : List O}
variable {T : Tab} {r : Rec} {n k : Nat} {ce : CE} {ρ ρ' : Rho} {v : V} {st st' : St} {fl : Fl} {sc : Scope}

theorem takeM_get {i : Nat} {l : PyData} (e : takeM i st = some (l, st')) : ∃ m xs, st.r[i]? = some (some (.loc m)) ∧ st.b ≤ m ∧ m + 1 = st.h.length ∧ undH m m st.h = true ∧ st.h[m]? = some (.list xs) ∧ l = .list xs ∧ st' = ⟨st.b, st.h.take m, (st.r.set i none).map (poison m)⟩ := by
  unfold takeM at e
  split at e
  case h_2 => cases e
  rename_i m hv
  split at e
  case isFalse => cases e
  rename_i hc
  have hc1 := Bool.and_eq_true_iff.mp hc
  have hc2 := Bool.and_eq_true_iff.mp hc1.1
  split at e
  · rename_i xs hx
    cases e
    exact ⟨m, xs, hv, Nat.le_of_ble_eq_true hc2.1, Nat.eq_of_beq_eq_true hc2.2, hc1.2, hx, rfl, rfl⟩
  · cases e
theorem ex_asgSM (H : HypX G T r n c ce) {o ix value : PySem.Expr} {p pos : Pos} {i : Nat} {y : PySem.Expr} (hs : notSlice ix = true) (hl : lastPair ce value = some (i, y)) (e : stepEx r (.asgSM (cE k ce o) (cE k ce ix) i (cE k ce y)) st = some (fl, st')) :
    ExX G c ce.names (.Assign [.Subscript o ix p] value pos) st fl st' := by
  unfold lastPair at hl
  split at hl
  case h_2 => cases hl
  rename_i na y' lp
  split at hl
  case isFalse => cases hl
  rename_i hpl
  split at hl
  case h_2 => cases hl
  rename_i i' hna
  cases hl
  obtain ⟨x, xp, rfl, hr, hsl⟩ := last_name hna
  unfold stepEx at e
  dsimp only at e
  split at e
  case h_2 => cases e
  rename_i yd h1 e1
  split at e
  · cases e
  rename_i l st₁ e2
  obtain ⟨m, xs, hv, hbm, hml, hu, hx, rfl, rfl⟩ := takeM_get e2
  dsimp only at e hv hbm hml hu hx
  split at e
  · cases e
  rename_i xo h3 e3
  split at e
  · cases e
  rename_i xk h4 e4
  split at e
  case h_2 => cases e
  rename_i h5 e5
  cases e
  refine ⟨rfl, fun X g s S Vs hb E Q q => ?_⟩
  refine assign_plain rfl (swaps_sole trivial) ?_
  have xs1 : EvXs G (c.fx X) ce.names st.r [.Name x xp, y] st.h [.loc m, .d yd] h1 := .cons _ _ _ _ _ _ _ (slot_name (H.H.fx X) hr hsl hv) (.cons _ _ _ _ _ _ _ (H.evx X e1) (.nil _))
  refine List_ (ev_spliced xs1 (by show (plainArg (.Name x xp) && (plainArg y && true)) = true; rw [hpl]; rfl) S Vs E _ fun us s₁ g₁ S₁ l₁ q₁ p₁ => ?_)
  cases p₁ with
  | cons pa p₁ =>
    cases p₁ with
    | cons pb p₁ =>
      cases p₁
      cases pa with
      | loc ha =>
        rename_i ub a
        obtain ⟨a', b, h1', h2', S₂⟩ := S₁.takeLast hml hu hx
        rw [h1'] at ha; cases ha
        cases h2' with
        | list rd =>
          rename_i vs nn
          let g₂ : Gh := ⟨g₁.as.take m, [(a, listOf vs.toArray nn)] ++ g₁.Z, g₁.mu.take m⟩
          refine newList_N S₂.fr S₂.news (fun hh F' N' => ?_) (by rw [sizeLine_eq]; show 2 ≤ 16777216; decide)
          let ob : Obj := { cls := .type "list", data := .seq [Value.ref a, ub].toArray }
          have S₃ := Sim.freeze (s := s₁) S₂ F' N' S₂.lt
          let g₃ : Gh := ⟨g₂.as, (s₁.heap.objs.size, ob) :: g₂.Z, g₂.mu⟩
          have l13 : leB st.b g₁ g₃ := by
            refine ⟨pre_take (List.take_prefix _ _) (by rw [List.length_take]; exact Nat.le_trans (Nat.min_le_left _ _) hbm), fun p hp => .tail _ (List.mem_append_right _ hp)⟩
          have kn3 : ∀ a o, kn c g₁ a o → kn c g₃ a o := Kn.mono fun p hp => .tail _ (List.mem_append_right _ hp)
          have rl : VV G (c.fx X) g₃ (.d (.list [.list xs, yd])) (.ref s₁.heap.objs.size) := by
            refine .d (.list (vs := [Value.ref a, ub].toArray) (.inr (.head _)) rfl rfl (.cons (.list (.inr (.tail _ (List.mem_append_left _ (.head _)))) rfl rfl ?_) (.cons ?_ .nil)))
            · exact rd.mono kn3
            · exact (rd_d pb rfl).mono kn3
          have Vs₃ : Vars G (c.fx X) g₃ ce.names ((st.r.set i none).map (poison m)) := by
            have z : Vars G (c.fx X) (g₁.cut m) ce.names ((st.r.set i none).map (poison m)) := Vars.cut m ((Vs.le l₁).unset i)
            exact Vars.le (g := g₁.cut m) (g' := g₃) ⟨List.prefix_refl _, fun p (hp : p ∈ g₁.Z) => List.Mem.tail _ (List.mem_append_right _ hp)⟩ z
          obtain ⟨lst, eq⟩ : ∃ l : Value → Value → List Value, assign (.Subscript o ix p) c.env (.ref s₁.heap.objs.size) = (do
              let ov ← holding [.ref s₁.heap.objs.size] (eval o c.env)
              let iv ← holding [.ref s₁.heap.objs.size, ov] (eval ix c.env)
              standAt p
              holding [.ref s₁.heap.objs.size, ov, iv] (setItem ov iv (.ref s₁.heap.objs.size))
              release (l ov iv) []) := ⟨_, rfl⟩
          rw [eq]
          refine wpAny_bind (wpAny_holding ((H.evx X e3) g₃ { s₁ with heap := hh } S₃ Vs₃ E _ fun w s₄ g₄ S₄ l₄ q₄ p₄ => ?_))
          refine wpAny_bind (wpAny_holding ((H.evx X e4) g₄ s₄ S₄ (Vs₃.le l₄) E _ fun z s₅ g₅ S₅ l₅ q₅ p₅ => ?_))
          refine wpAny_bind (wpAny_standAt (wpAny_bind (wpAny_holding (setS_ok (H.H.fx X).ok S₅ (VV.le l₅ p₄) p₅ (VV.le (l₄.trans l₅) rl) e5 E _ fun _ s₆ g₆ S₆ l₆ q₆ _ => ?_))))
          refine wpAny_release' ?_
          have lz := (l₄.trans l₅).trans l₆
          refine q .next s₆ g₆ X S₆ (((l₁.leB _).trans l13).trans (lz.leB _)) ?_ .next fun _ => Vs₃.le lz
          exact ⟨q₆.os.trans (q₅.os.trans (q₄.os.trans q₁.os)), q₆.gens.trans (q₅.gens.trans (q₄.gens.trans q₁.gens))⟩
end Mine
end
section
open PySem PySem.W PyProof.Rows PySem.Calls PySem.SeqAt
set_option linter.unusedVariables false
namespace Mine
variable {G : Gl} {α β : Type} {c : Cx} {g : Gh} {s : Shared} {h h' h₁ h₂ : List O}
variable {T : Tab} {r : Rec} {n k : Nat} {ce : CE} {ρ ρ' : Rho} {v : V} {st st' : St} {fl : Fl} {sc : Scope}

theorem beqNat {a b : Nat} : (a == b) = Nat.beq a b := by
  cases h : Nat.beq a b with
  | true => rw [Nat.eq_of_beq_eq_true h]; simp
  | false =>
    rw [beq_eq_false_iff_ne]
    rintro rfl
    rw [Nat.beq_refl] at h; cases h
theorem swap_names {line : Nat} {env : Env} (hl : ∀ x, isLocal x ce.names = true → env.kindOf x = some .local) : ∀ {ts : List PySem.Expr} {names : List Str}, mapO (swapName ce line) ts = some names →
    ts.filterMap (fun | .Name id pos => if env.kindOf id == some .local && pos.line == line then some id else none | _ => none) = names ∧ names.length = ts.length
  | [], names, e => by rw [mapO_nil e]; exact ⟨rfl, rfl⟩
  | t :: ts, names, e => by
    obtain ⟨y, l, h1, h2, rfl⟩ := mapO_cons e
    obtain ⟨a, b⟩ := swap_names hl h2
    unfold swapName at h1
    split at h1
    · rename_i x p
      split at h1
      · rename_i hc
        cases h1
        have hc' := Bool.and_eq_true_iff.mp hc
        refine ⟨?_, by simp [b]⟩
        rw [List.filterMap_cons]
        have : (env.kindOf y == some NameKind.local && p.line == line) = true := by
          rw [hl y hc'.1, beqNat, hc'.2]; rfl
        simp only [this, if_true]
        rw [a]
      · cases h1
    · cases h1
theorem distS_erase {l : List Str} (h : distS l = true) : l.eraseDups = l := by
  have nd : l.Nodup := by
    induction l with
    | nil => exact .nil
    | cons x l ih =>
      have h' := Bool.and_eq_true_iff.mp h
      rw [List.nodup_cons]
      refine ⟨fun hx => ?_, ih h'.2⟩
      have h1 := h'.1
      rw [Bool.not_eq_true', List.any_eq_false] at h1
      exact h1 x hx ((strEq_iff x x).mpr rfl)
  clear h
  induction l with
  | nil => rfl
  | cons x l ih =>
    rw [List.nodup_cons] at nd
    rw [List.eraseDups_cons]
    have : l.filter (fun b => !b == x) = l := by
      rw [List.filter_eq_self]
      intro y hy
      have : y ≠ x := fun e => nd.1 (e ▸ hy)
      simp [this]
    rw [this, ih nd.2]
theorem swapped_some {ts vs : List PySem.Expr} {names : List Str} {i j : Nat} {p tp : Pos} {env : Env} (hk : env.blockKind = .function) (hl : ∀ x, isLocal x ce.names = true → env.kindOf x = some .local) (hp : vs.all plainArg = true) (hs : swapNames ce ts vs = some names) :
    swappedStores [.Tuple ts j tp] (.Tuple vs i p) env = pure (some names) := by
  unfold swapNames at hs
  split at hs
  case isFalse => cases hs
  rename_i hc
  split at hs
  case h_2 => cases hs
  rename_i nm hm
  split at hs
  case isFalse => cases hs
  rename_i hd
  cases hs
  simp only [Bool.and_eq_true] at hc
  obtain ⟨h1, h2, h3, h4⟩ := hc
  obtain ⟨a, b⟩ := swap_names hl hm
  have star : (vs.any fun | .Starred .. => true | _ => false) = false := by
    rw [List.any_eq_false]
    intro x hx
    have := List.all_eq_true.mp hp x hx
    cases x <;> first | (cases this; done) | exact Bool.false_ne_true
  have c1 : (!(ts.length == 2 || ts.length == 3) || vs.length != ts.length || env.blockKind != .function) = false := by
    rw [hk, beqNat, beqNat, h1]
    have : vs.length = ts.length := Nat.eq_of_beq_eq_true h2
    simp [this]
  have c2 : (names.length != ts.length || names.eraseDups.length != names.length) = false := by
    rw [distS_erase hd, b]; simp
  unfold swappedStores
  dsimp only
  rw [c1]
  simp only [Bool.false_eq_true, if_false]
  refine (if_neg (fun hh => ?_)).trans ?_
  · have : (vs.any fun | .Starred .. => true | _ => false) = true := hh
    rw [star] at this; cases this
  refine (if_neg (fun hh => ?_)).trans ?_
  · have : (names.length != ts.length || names.eraseDups.length != names.length) = true := by rw [← a]; exact hh
    rw [← a] at c2 this; rw [a] at c2 this
    rw [c2] at this; cases this
  refine (if_neg ?_).trans ?_
  · rw [show vs.all (foldedForSure 8) = false by simpa using h3]; exact Bool.false_ne_true
  refine (if_neg ?_).trans ?_
  · rw [show vs.all (constantsAlone 8) = false by simpa using h4]; exact Bool.false_ne_true
  exact congrArg (fun z => (pure (some z) : Sem (Option (List Str)))) a
theorem swapped_none {ts vs : List PySem.Expr} {i j : Nat} {p tp : Pos} {env : Env} (hs : noSwap ts vs = true) : swappedStores [.Tuple ts j tp] (.Tuple vs i p) env = pure none := by
  unfold noSwap at hs
  unfold swappedStores
  dsimp only
  by_cases h1 : (!(ts.length == 2 || ts.length == 3) || vs.length != ts.length || env.blockKind != .function) = true
  · rw [if_pos h1]
  · rw [if_neg h1]
    split
    · rfl
    · split
      · rfl
      · rename_i h2 h3
        have : vs.all (foldedForSure 8) = true := by
          rcases Bool.or_eq_true_iff.mp hs with z | z
          · exfalso
            apply h1
            rw [beqNat, beqNat, z]; rfl
          · exact z
        rw [if_pos this]
end Mine
end
section
open PySem PySem.W PyProof.Rows PySem.Calls PySem.SeqAt
set_option linter.unusedVariables false
namespace Mine
variable {G : Gl} {α β : Type} {c : Cx} {g : Gh} {s : Shared} {h h' h₁ h₂ : List O}
variable {T : Tab} {r : Rec} {n k : Nat} {ce : CE} {ρ ρ' : Rho} {v : V} {st st' : St} {fl : Fl} {sc : Scope}

theorem cS_zero (x : PySem.Stmt) : cS 0 ce x = .fail := by cases x <;> rfl
theorem slice_fail {i : PySem.Expr} (h : notSlice i = false) : cE k ce i = .fail := by
  cases i <;> first | (cases h; done) | skip
  cases k <;> rfl
theorem tuple_plain {vs : List PySem.Expr} {i : Nat} {p : Pos} (H : Hyp G T r n c ce) {z : V × List O} (e : r.ev (cE k ce (.Tuple vs i p)) ρ h = some z) : vs.all plainArg = true := by
  cases k with
  | zero => rw [cE_zero, H.IH.fail] at e; cases e
  | succ k =>
    unfold cE at e
    dsimp only at e
    split at e
    · rename_i hp; exact (plain_of hp).1
    · rw [H.IH.fail] at e; cases e
theorem isLocal_kind (Ck : CeOk G ce c) (x : Str) (h : isLocal x ce.names = true) : c.env.kindOf x = some .local := by
  unfold isLocal at h
  split at h
  · exact Ck.loc x (by assumption)
  · cases h
theorem bk (O : Ok G c) : c.env.blockKind = .function := by unfold Env.blockKind; rw [O.ek]; rfl

theorem exAll (H : HypX G T r n c ce) : ∀ {k : Nat} {x : PySem.Stmt}, stepEx r (cS k ce x) st = some (fl, st') → ExX G c ce.names x st fl st'
  | 0, x, e => by rw [cS_zero] at e; cases e
  | k + 1, x, e => by
    have bad : cS (k + 1) ce x = .fail → ExX G c ce.names x st fl st' := fun z => by rw [z] at e; cases e
    have evf : ∀ ρ h, r.ev .fail ρ h = none := H.H.IH.fail
    cases x with
    | Expr v p =>
      unfold cS at e
      dsimp only at e
      split at e
      · exact ex_expr H (by assumption) e
      · cases e
    | If t a b p => exact ex_ite H e
    | While t a o p =>
      cases o with
      | nil => exact ex_while H e
      | cons _ _ => exact bad rfl
    | For t it a o p =>
      cases o with
      | cons _ _ => exact bad rfl
      | nil =>
        unfold cS at e
        dsimp only at e
        split at e
        · rename_i arg hr
          split at e
          · exact ex_forR H (by assumption) hr e
          · cases e
        · split at e
          · exact ex_for H (by assumption) e
          · cases e
    | Return v p =>
      cases v with
      | none => exact bad rfl
      | some v =>
        unfold cS at e
        dsimp only at e
        split at e
        · exact ex_retM H (by assumption) e
        · exact ex_ret H e
    | Assign ts v p =>
      match ts with
      | [] => exact bad rfl
      | t :: t' :: ts => exact bad (by cases t <;> rfl)
      | [t] =>
        cases t with
        | Name x xp =>
          unfold cS at e
          dsimp only at e
          split at e
          · exact ex_asgAll H (by assumption) e
          · cases e
        | Attribute o a ap =>
          unfold cS at e
          dsimp only at e
          split at e
          · exact ex_asgA H (by assumption) e
          · cases e
        | Subscript o i sp =>
          unfold cS at e
          dsimp only at e
          cases hn : notSlice i with
          | true =>
            split at e
            · exact ex_asgSM H hn (by assumption) e
            · exact ex_asgS H hn e
          | false =>
            exfalso
            rw [slice_fail hn] at e
            split at e
            · unfold stepEx at e
              dsimp only at e
              split at e
              · split at e
                · cases e
                · split at e
                  · cases e
                  · rw [evf] at e; cases e
              · cases e
            · unfold stepEx at e
              dsimp only at e
              split at e
              · cases e
              · split at e
                · cases e
                · rw [evf] at e; cases e
        | Tuple ts j tp =>
          have gen : (∀ a b d, v ≠ .Tuple a b d) → cS (k + 1) ce (.Assign [.Tuple ts j tp] v p) = (match mapO (nameSlot ce) ts with | some is => .unp false is (cE k ce v) | none => .fail) → ExX G c ce.names (.Assign [.Tuple ts j tp] v p) st fl st' := fun hv z => by
            rw [z] at e
            split at e
            · refine ex_unp H (by assumption) ?_ e
              cases v <;> first | rfl | exact absurd rfl (hv _ _ _)
            · cases e
          cases v with
          | Tuple vs i vp =>
            unfold cS at e
            dsimp only at e
            have pl : ∀ {rev is}, stepEx r (.unp rev is (cE k ce (.Tuple vs i vp))) st = some (fl, st') → vs.all plainArg = true := fun {rev is} e => by
              unfold stepEx at e
              dsimp only at e
              split at e
              · rename_i e1; exact tuple_plain H.H e1
              · cases e
            split at e
            · rename_i names hsn
              split at e
              · exact ex_unpR H (by assumption) (swapped_some (bk H.H.ok) (isLocal_kind H.H.Ck) (pl e) hsn) e
              · cases e
            · split at e
              · rename_i hns
                split at e
                · exact ex_unp H (by assumption) (swapped_none hns) e
                · cases e
              · cases e
          | _ => exact gen (fun _ _ _ z => by cases z) rfl
        | _ => exact bad rfl
    | _ => exact bad rfl
end Mine
end
section
open PySem PySem.W PyProof.Rows PySem.Calls PySem.SeqAt
set_option linter.unusedVariables false
set_option linter.unusedSimpArgs false
namespace Mine

def addB : List (Str × Value) → List (Str × Value) → List (Str × Value)
  | slots, [] => slots
  | slots, (n, d) :: r => addB (if (slots.lookup n).isNone then slots ++ [(n, d)] else slots) r
theorem lookup_app {l k : List (Str × Value)} {x : Str} : (l ++ k).lookup x = (l.lookup x).or (k.lookup x) := by
  induction l with
  | nil => rfl
  | cons p l ih =>
    obtain ⟨n, v⟩ := p
    rw [List.cons_append, List.lookup_cons, List.lookup_cons]
    cases x == n with
    | true => rfl
    | false => exact ih
theorem addB_lookup {x : Str} : ∀ {l slots : List (Str × Value)}, (addB slots l).lookup x = (slots.lookup x).or (l.lookup x)
  | [], slots => by unfold addB; cases slots.lookup x <;> rfl
  | (n, d) :: r, slots => by
    unfold addB
    rw [addB_lookup, List.lookup_cons]
    by_cases h : (slots.lookup n).isNone = true
    · rw [if_pos h, lookup_app]
      cases hx : x == n with
      | true =>
        have : x = n := by simpa using hx
        subst this
        rw [Option.isNone_iff_eq_none.mp h]
        simp [List.lookup_cons]
      | false =>
        simp only [List.lookup_cons, hx, List.lookup_nil, Option.or_none]
    · rw [if_neg h]
      cases hx : x == n with
      | true =>
        have : x = n := by simpa using hx
        subst this
        cases hq : slots.lookup x with
        | none => rw [hq] at h; exact absurd rfl h
        | some v => rfl
      | false => rfl
theorem zip_lookup : ∀ {names : List Str} {us : List Value} {i : Nat} {x : Str} {u : Value}, names.Nodup → names[i]? = some x → us[i]? = some u → (names.zip us).lookup x = some u
  | [], _, _, _, _, _, h, _ => by simp at h
  | n :: names, [], _, _, _, _, _, h => by simp at h
  | n :: names, v :: us, 0, x, u, nd, h1, h2 => by
    simp at h1 h2; subst h1 h2
    simp [List.zip_cons_cons, List.lookup_cons]
  | n :: names, v :: us, i + 1, x, u, nd, h1, h2 => by
    rw [List.nodup_cons] at nd
    rw [List.getElem?_cons_succ] at h1 h2
    rw [List.zip_cons_cons, List.lookup_cons]
    have : (x == n) = false := by
      rw [beq_eq_false_iff_ne]
      rintro rfl
      exact nd.1 (List.mem_of_getElem? h1)
    rw [this]
    exact zip_lookup nd.2 h1 h2
theorem zip_lookup_none : ∀ {names : List Str} {us : List Value} {i : Nat} {x : Str}, names.Nodup → names[i]? = some x → us.length ≤ i → (names.zip us).lookup x = none
  | [], _, _, _, _, _, _ => by simp
  | n :: names, [], _, _, _, _, _ => by simp
  | n :: names, v :: us, 0, x, _, _, h => by simp at h
  | n :: names, v :: us, i + 1, x, nd, h1, h2 => by
    rw [List.nodup_cons] at nd
    rw [List.getElem?_cons_succ] at h1
    rw [List.zip_cons_cons, List.lookup_cons]
    have : (x == n) = false := by
      rw [beq_eq_false_iff_ne]
      rintro rfl
      exact nd.1 (List.mem_of_getElem? h1)
    rw [this]
    exact zip_lookup_none nd.2 h1 (by simpa using h2)
theorem filterMap_zip {lk : Str → Option Value} : ∀ {names : List Str} {vals : List Value}, names.length = vals.length → (∀ (i : Nat) (x : Str) (v : Value), names[i]? = some x → vals[i]? = some v → lk x = some v) → names.filterMap (fun n => (lk n).map (n, ·)) = names.zip vals
  | [], _, _, _ => by simp
  | n :: names, [], h, _ => by simp at h
  | n :: names, v :: vals, h, k => by
    rw [List.filterMap_cons, k 0 n v rfl rfl]
    simp only [Option.map_some, List.zip_cons_cons]
    rw [filterMap_zip (by simpa using h) fun i x v h1 h2 => k (i + 1) x v h1 h2]
theorem forIn_addB : ∀ (l slots : List (Str × Value)), (forIn (m := Sem) l slots fun x r => if (r.lookup x.1).isNone = true then pure (ForInStep.yield (r ++ [(x.1, x.2)])) else pure (ForInStep.yield r)) = pure (addB slots l)
  | [], _ => rfl
  | (n, d) :: l, slots => by
    rw [List.forIn_cons]
    unfold addB
    by_cases h : (slots.lookup n).isNone = true
    · simp only [h, if_true]
      exact forIn_addB l _
    · simp only [h, if_false]
      exact forIn_addB l _

structure PosArgs (p : Arguments) : Prop where
  po : p.posonlyargs = []
  kw : p.kwonlyargs = []
  va : p.vararg = none
  ka : p.kwarg = none
theorem bind_pos {fd : FuncData} {us ds : List Value} {names : List Str} {s : Shared} (P : PosArgs fd.params) (hn : fd.params.args.map (·.arg) = names) (h1 : us.length ≤ names.length) (hd : ds.length ≤ names.length)
    (h2 : names.length - us.length ≤ ds.length) (nd : names.Nodup)
    (hs : ∀ (M : Model) (A : Around) (E : Value → Shared → Prop) (Q : Option (Array Value) → Shared → Prop), (∀ d, (d.getD #[]).toList = ds → Q d s) → wpAny M A (seqItems? fd.defaults) Q E s) :
    BindsTo s fd ⟨us, []⟩ (names.zip (us ++ ds.drop (ds.length - (names.length - us.length)))) := by
  intro M A E Q hq
  unfold PySem.bindArgs
  simp only [P.po, P.kw, P.va, P.ka, List.map_nil, List.nil_append, List.append_nil, List.forIn_nil, hn]
  refine wpAny_bind (wpAny_pure ?_)
  refine wpAny_bind (hs _ _ _ _ fun d hd' => ?_)
  have e1 : ds.drop (ds.length - names.length) = ds := by rw [Nat.sub_eq_zero_of_le hd, List.drop_zero]
  have e2 : (List.filter (fun n => (List.lookup n (names.zip us)).isNone) (names.take (names.length - ds.length))) = [] := by
    rw [List.filter_eq_nil_iff]
    intro x hx
    obtain ⟨i, hi, rfl⟩ := List.mem_iff_getElem.mp hx
    have hi' : i < names.length - ds.length := Nat.lt_of_lt_of_le hi (by rw [List.length_take]; exact Nat.min_le_left _ _)
    have hiu : i < us.length := by omega
    have hin : i < names.length := by omega
    rw [List.getElem_take, zip_lookup nd (List.getElem?_eq_getElem hin) (List.getElem?_eq_getElem hiu)]
    exact Bool.false_ne_true
  rw [if_neg (by simp; omega)]
  rw [hd', e1]
  dsimp only
  rw [if_neg (by rw [e2]; decide)]
  have e3 := forIn_addB ((names.drop (names.length - ds.length)).zip ds) (names.zip us)
  refine wpAny_bind (wpAny_of_eq e3 ?_)
  refine wpAny_bind (wpAny_pure ?_)
  dsimp only
  rw [if_neg (by decide)]
  refine wpAny_pure ?_
  have e4 : names.filterMap (fun n => ((addB (names.zip us) ((names.drop (names.length - ds.length)).zip ds)).lookup n).map (n, ·)) = names.zip (us ++ ds.drop (ds.length - (names.length - us.length))) := by
    refine filterMap_zip ?_ fun i x v g1 g2 => ?_
    · rw [List.length_append, List.length_drop]; omega
    · rw [addB_lookup]
      have hin : i < names.length := (List.getElem?_eq_some_iff.mp g1).1
      by_cases hi : i < us.length
      · rw [List.getElem?_append_left hi] at g2
        rw [zip_lookup nd g1 g2]; rfl
      · rw [List.getElem?_append_right (Nat.le_of_not_lt hi), List.getElem?_drop] at g2
        rw [zip_lookup_none nd g1 (Nat.le_of_not_lt hi)]
        rw [Option.none_or]
        have nd' : (names.drop (names.length - ds.length)).Nodup := nd.sublist (List.drop_sublist _ _)
        refine zip_lookup (i := i - (names.length - ds.length)) nd' ?_ ?_
        · rw [List.getElem?_drop, ← g1]; congr 1; omega
        · rw [← g2]; congr 1; omega
  rw [e4]
  exact hq

/-! what a binding of names makes of locals and cells -/
theorem bindL_other {kind : Str → Option NameKind} {x : Str} : ∀ {l : List (Str × Value)} {m : Str → Option Value}, x ∉ l.map (·.1) → bindL kind l m x = m x
  | [], _, _ => rfl
  | (n, v) :: r, m, h => by
    unfold bindL
    rw [List.map_cons, List.mem_cons, not_or] at h
    rw [bindL_other h.2]
    split
    · exact if_neg h.1
    · rfl
theorem bindL_get {kind : Str → Option NameKind} {x : Str} {u : Value} : ∀ {names : List Str} {us : List Value} {i : Nat} {m : Str → Option Value}, names.Nodup → names[i]? = some x → us[i]? = some u → kind x = some .local → bindL kind (names.zip us) m x = some u
  | [], _, _, _, _, h, _, _ => by simp at h
  | n :: names, [], _, _, _, _, h, _ => by simp at h
  | n :: names, v :: us, 0, m, nd, h1, h2, hk => by
    simp at h1 h2; subst h1 h2
    rw [List.nodup_cons] at nd
    rw [List.zip_cons_cons]
    unfold bindL
    rw [bindL_other, if_pos hk, if_pos rfl]
    intro hm
    obtain ⟨p, hp, e⟩ := List.mem_map.mp hm
    exact nd.1 (e ▸ (List.of_mem_zip hp).1)
  | n :: names, v :: us, i + 1, m, nd, h1, h2, hk => by
    rw [List.nodup_cons] at nd
    rw [List.getElem?_cons_succ] at h1 h2
    rw [List.zip_cons_cons]
    unfold bindL
    exact bindL_get nd.2 h1 h2 hk
theorem bindC_other {kind : Str → Option NameKind} {x : Str} : ∀ {l : List (Str × Value)} {m : Str → Option Value}, x ∉ l.map (·.1) → bindC kind l m x = m x
  | [], _, _ => rfl
  | (n, v) :: r, m, h => by
    unfold bindC
    rw [List.map_cons, List.mem_cons, not_or] at h
    rw [bindC_other h.2]
    split
    · rfl
    · exact if_neg h.1
theorem bindC_get {kind : Str → Option NameKind} {x : Str} {u : Value} : ∀ {names : List Str} {us : List Value} {i : Nat} {m : Str → Option Value}, names.Nodup → names[i]? = some x → us[i]? = some u → kind x = some .cell → bindC kind (names.zip us) m x = some u
  | [], _, _, _, _, h, _, _ => by simp at h
  | n :: names, [], _, _, _, _, h, _ => by simp at h
  | n :: names, v :: us, 0, m, nd, h1, h2, hk => by
    simp at h1 h2; subst h1 h2
    rw [List.nodup_cons] at nd
    rw [List.zip_cons_cons]
    unfold bindC
    rw [bindC_other, if_neg (by rw [hk]; decide), if_pos rfl]
    intro hm
    obtain ⟨p, hp, e⟩ := List.mem_map.mp hm
    exact nd.1 (e ▸ (List.of_mem_zip hp).1)
  | n :: names, v :: us, i + 1, m, nd, h1, h2, hk => by
    rw [List.nodup_cons] at nd
    rw [List.getElem?_cons_succ] at h1 h2
    rw [List.zip_cons_cons]
    unfold bindC
    exact bindC_get nd.2 h1 h2 hk
theorem pick_get : ∀ {is : List Nat} {vals : List V} {r r' : List (Option V)}, pick vals is r = some r' → vals.length = is.length ∧ r'.length = r.length ∧ ∀ (i : Nat) (v : V), r'[i]? = some (some v) → (∃ j : Nat, is[j]? = some i ∧ vals[j]? = some v) ∨ r[i]? = some (some v)
  | [], vals, r, r', e => by
    unfold pick at e
    split at e
    · cases e; exact ⟨rfl, rfl, fun i v h => .inr h⟩
    · cases e
  | i :: is, vals, r, r', e => by
    unfold pick at e
    split at e
    · rename_i v vs
      obtain ⟨h0, h1, h2⟩ := pick_get e
      refine ⟨by simp [h0], by rw [h1, List.length_set], fun j w hw => ?_⟩
      rcases h2 j w hw with ⟨d, k1, k2⟩ | h3
      · exact .inl ⟨d + 1, k1, k2⟩
      · rw [List.getElem?_set] at h3
        split at h3
        · rename_i hij
          split at h3
          · cases h3; exact .inl ⟨0, by simp [hij], rfl⟩
          · cases h3
        · exact .inr h3
    · cases e
end Mine
end
section
open PySem PySem.W PyProof.Rows PySem.Calls PySem.SeqAt
set_option linter.unusedVariables false
set_option linter.unusedSimpArgs false
namespace Mine
variable {G : Gl} {α β : Type} {c : Cx} {g : Gh} {s : Shared} {h h' h₁ h₂ : List O}
variable {T : Tab} {r : Rec} {n k : Nat} {ce : CE} {ρ ρ' : Rho} {v : V} {st st' : St} {fl : Fl} {sc : Scope}

structure FnParts (G : Gl) (f : Nat) (fn : Fn) (name qual : Str) (params : Arguments) (body : List PySem.Stmt) (scope : Scope) (dV kV doc pm cdv ct oc : Value) (an od : Option Addr) (osl : Array (Option Value)) (ce : CE) (ds : List Value) : Prop where
  at_ : G.K.lookup f = some ⟨oc, od, .func (fnOf name qual params body scope dV kV doc pm an cdv ct), osl⟩
  code : codeIn G.K cdv qual = true
  body : fn.body = body.map (cS 60 ce)
  names : ce.names = scope.names
  ns : fn.ns = scope.names.length
  ps : mapO (fun a : Str => slotAt a scope.names 0) (params.args.map (·.arg)) = some fn.params
  pos : PosArgs params
  nda : (params.args.map (·.arg)).Nodup
  nd : (scope.names.map (·.1)).Nodup
  kinds : ∀ a ∈ params.args.map (·.arg), scope.names.lookup a = some .local ∨ scope.names.lookup a = some .cell
  kind : scope.kind = .function
  co : scope.isCoroutine = false
  gen : scope.isGenerator = false
  cnd : ((cellsFrom 0 scope.names []).map (·.1)).Nodup
  gl : ∀ x gv, ce.gl x = some gv → GvOk G x gv
  dl : fn.dfl.length ≤ fn.params.length
  dv : VRs G.prog G.w (fun a o => G.K.lookup a = some o) [] fn.dfl ds
  df : (dV = .none ∧ ds = []) ∨ ∃ D o items m, dV = .ref D ∧ G.K.lookup D = some o ∧ o.data = .seq items m ∧ ds = items.toList
def FnOk (G : Gl) (f : Nat) (fn : Fn) : Prop := ∃ name qual params body scope dV kV doc pm cdv ct oc an od osl ce ds, FnParts G f fn name qual params body scope dV kV doc pm cdv ct oc an od osl ce ds

theorem exs_ok (IH : RecX G T r n) (O : Ok G c) (f : FOk c) (nd : (c.fenv.cells.map (·.1)).Nodup) (Rn : Room n c.A) (Ck : CeOk G ce c) : ∀ {xs : List PySem.Stmt} {st st' : St} {fl : Fl}, exs r (xs.map (cS k ce)) st = some (fl, st') → ExXs G c ce.names xs st fl st'
  | [], st, st', fl, e => by
    cases e
    exact ⟨rfl, fun X g s S Vs hb E Q q => wpAny_pure (q _ s g X S (.refl _ _) (.refl _) .next fun _ => Vs)⟩
  | x :: xs, st, st', fl, e => by
    rw [List.map_cons] at e
    unfold Mine.exs at e
    split at e
    · rename_i st₁ e1
      obtain ⟨hb1, a⟩ := IH.ex c O f nd Rn k ce x _ _ _ Ck e1
      obtain ⟨hb2, b⟩ := exs_ok IH O f nd Rn Ck e
      refine ⟨hb2.trans hb1, fun X g s S Vs hb E Q q => ?_⟩
      refine wpAny_execs_cons (a X g s S Vs hb E _ fun fl₁ s₁ g₁ X₁ S₁ l₁ q₁ p₁ Vs₁ => ?_)
      cases p₁
      refine b X₁ g₁ s₁ S₁ (Vs₁ rfl) ?_ E Q fun fl₂ s₂ g₂ X₂ S₂ l₂ q₂ p₂ Vs₂ => ?_
      · rw [hb1, ← S₁.la]
        exact l₁.len (by rw [S.la]; exact hb)
      · rw [hb1] at l₂
        exact q fl₂ s₂ g₂ X₂ S₂ (l₁.trans l₂) (q₁.trans q₂) p₂ Vs₂
    · rename_i v st₁ e1
      cases e
      obtain ⟨hb1, a⟩ := IH.ex c O f nd Rn k ce x _ _ _ Ck e1
      refine ⟨hb1, fun X g s S Vs hb E Q q => ?_⟩
      refine wpAny_execs_cons (a X g s S Vs hb E _ fun fl₁ s₁ g₁ X₁ S₁ l₁ q₁ p₁ Vs₁ => ?_)
      cases p₁ with
      | ret p => exact q _ s₁ g₁ X₁ S₁ l₁ q₁ (.ret p) (fun z => by cases z)
    · cases e

theorem cellsFrom_addr {b : Nat} : ∀ {names : List (Str × NameKind)} {m : Nat} {acc : List (Str × Addr)}, (acc.map (·.2)).Nodup → (∀ p ∈ acc, @LT.lt Nat _ p.2 m ∧ @LE.le Nat _ b p.2) → b ≤ m →
    ((cellsFrom m names acc).map (·.2)).Nodup ∧ ∀ p ∈ cellsFrom m names acc, @LE.le Nat _ b p.2
  | [], m, acc, nd, h, hb => by unfold cellsFrom; exact ⟨nd, fun p hp => (h p hp).2⟩
  | (x, kd) :: r, m, acc, nd, h, hb => by
    unfold cellsFrom
    split
    · refine cellsFrom_addr ?_ ?_ (Nat.le_succ_of_le hb)
      · rw [List.map_cons, List.nodup_cons]
        refine ⟨fun hm => ?_, nd⟩
        obtain ⟨p, hp, e⟩ := List.mem_map.mp hm
        have := (h p hp).1
        rw [show p.2 = m from e] at this
        exact absurd this (Nat.lt_irrefl _)
      · intro p hp
        rcases List.mem_cons.mp hp with rfl | hp
        · exact ⟨Nat.lt_succ_self _, hb⟩
        · exact ⟨Nat.lt_succ_of_lt (h p hp).1, (h p hp).2⟩
    · exact cellsFrom_addr nd h hb

theorem VRs.appendV {kn : Addr → Obj → Prop} {as : List Addr} : ∀ {l l' : List V} {us us' : List Value}, VRs G.prog G.w kn as l us → VRs G.prog G.w kn as l' us' → VRs G.prog G.w kn as (l ++ l') (us ++ us')
  | [], _, _, _, a, b => by cases a; exact b
  | x :: l, _, _, _, a, b => by cases a with | cons p q => exact .cons p (VRs.appendV q b)
theorem VRs.dropV {kn : Addr → Obj → Prop} {as : List Addr} : ∀ {l : List V} {us : List Value} (m : Nat), VRs G.prog G.w kn as l us → VRs G.prog G.w kn as (l.drop m) (us.drop m)
  | _, _, 0, a => a
  | [], _, m + 1, a => by cases a; exact .nil
  | x :: l, _, m + 1, a => by cases a with | cons p q => exact VRs.dropV m q

theorem fn_call (IH : RecX G T r n) (CK : ∀ C, G.cg C → ClsOk G.K T C) (O : Ok G c) (Rm : Room (n + 1) c.A) {f : Nat} {fn : Fn} (K : FnOk G f fn) {vs : List V} {us : List Value} (e : run r fn vs h = some (v, h')) (S : Sim G c g h s.heap) (rs : VVs G c g vs us) {R : Result → Shared → Prop}
    (q : ∀ u s' g', Sim G c g' h' s'.heap → g.le g' → Same s s' → VV G c g' v u → R (.ok (.ret u)) s') : codeAny (model G.prog G.w) c.A (.call (.ref f) ⟨us, []⟩) R s := by
  obtain ⟨name, qual, params, body, scope, dV, kV, doc, pm, cdv, ct, oc, an, od, osl, ce, ds, P⟩ := K
  obtain ⟨A₀, B⟩ := O.below
  unfold run at e
  split at e
  · cases e
  rename_i r₀ hb₀
  unfold Mine.bindArgs at hb₀
  dsimp only at hb₀
  split at hb₀
  case isFalse => cases hb₀
  rename_i hcnd
  have hcnd' := Bool.and_eq_true_iff.mp hcnd
  have a1 : vs.length ≤ fn.params.length := Nat.le_of_ble_eq_true hcnd'.1
  have a2 : fn.params.length - vs.length ≤ fn.dfl.length := Nat.le_of_ble_eq_true hcnd'.2
  have a3 : us.length = vs.length := rs.length
  have a4 : ds.length = fn.dfl.length := P.dv.length
  have mapLen : ∀ {l : List Str} {is : List Nat}, mapO (fun a : Str => slotAt a scope.names 0) l = some is → l.length = is.length := by
    intro l
    induction l with
    | nil => intro is h; rw [mapO_nil h]; rfl
    | cons x l ih => intro is h; obtain ⟨y, k, h1, h2, rfl⟩ := mapO_cons h; simp [ih h2]
  have mapGet : ∀ {l : List Str} {is : List Nat} {j i : Nat}, mapO (fun a : Str => slotAt a scope.names 0) l = some is → is[j]? = some i → ∃ x, l[j]? = some x ∧ slotAt x scope.names 0 = some i := by
    intro l
    induction l with
    | nil => intro is j i h hj; rw [mapO_nil h] at hj; cases hj
    | cons x l ih =>
      intro is j i h hj
      obtain ⟨y, k, h1, h2, rfl⟩ := mapO_cons h
      cases j with
      | zero => cases hj; exact ⟨x, rfl, h1⟩
      | succ j => exact ih h2 hj
  have a5 := mapLen P.ps
  let names := params.args.map (·.arg)
  have a6 : names.length = fn.params.length := a5
  let tail := ds.drop (ds.length - (names.length - us.length))
  have hbind : BindsTo s (fnOf name qual params body scope dV kV doc pm an cdv ct) ⟨us, []⟩ (names.zip (us ++ tail)) := by
    refine bind_pos P.pos rfl (by omega) (by have := P.dl; omega) (by omega) P.nda ?_
    intro M A E Q hQ
    rcases P.df with ⟨h1, h2⟩ | ⟨D, o, items, m, h1, h2, h3, h4⟩
    · show wpAny M A (seqItems? dV) Q E s
      rw [h1]
      exact wpAny_of_eq (a := none) rfl (hQ none (by rw [h2]; rfl))
    · show wpAny M A (seqItems? dV) Q E s
      rw [h1]
      exact wpAny_seqItems ((O.K.keeps S.fr.keep) _ _ h2) h3 (hQ _ (by rw [h4]; rfl))
  have hkd : ((names.zip (us ++ tail)).all fun y => scope.names.lookup y.1 == some .local || scope.names.lookup y.1 == some .cell) = true := by
    rw [List.all_eq_true]
    intro y hy
    rcases P.kinds y.1 (List.of_mem_zip hy).1 with z | z <;> rw [z] <;> rfl
  let binds := names.zip (us ++ tail)
  have hroom : c.A.depth < recursionLimit := by have := Rm.1; omega
  refine callX_cells B S.fr S.news O.T.nolimit O.frames O.ff O.fk ((O.K.keeps S.fr.keep) _ _ P.at_) rfl (codeRec_of (O.K.keeps S.fr.keep) P.code) hroom hbind (kindsX hkd) P.cnd (fun gH L' h₁ tk cells FG F' N' Y B' sty lt => ?_) P.co P.gen P.kind
  let env' := envOfC qual scope L' f cdv
  let c' : Cx := { hb := c.hb, base := c.base, outer := c.fenv :: c.outer, h₀ := gH, L := L', m := bindL env'.kindOf binds (fun _ => none), fenv := env', env := env', A := c.A.deeper env', cells := cells, cm := bindC env'.kindOf binds (fun _ => none), pri := c.cells ++ c.pri }
  have led : ∀ (cl : Led) (g₁ : Gh), cl ++ ((c.cells ++ c.pri) ++ (g₁.mu.flatten ++ g₁.Z)) = cl ++ ledOf c g₁ := fun cl g₁ => by unfold ledOf; rw [List.append_assoc]
  have cad := cellsFrom_addr (b := L' + 1) (names := scope.names) (m := L' + 1) (acc := []) List.nodup_nil (fun p hp => nomatch hp) (Nat.le_refl _)
  have S' : Sim G c' g h h₁ := by
    refine ⟨F', fun p hp => N' p ?_, ?_, S.la, S.lm, S.objs⟩
    · have hp' : p ∈ cells ++ ((c.cells ++ c.pri) ++ (g.mu.flatten ++ g.Z)) := hp
      rw [led] at hp'; exact hp'
    · show ((cells ++ ((c.cells ++ c.pri) ++ (g.mu.flatten ++ g.Z))).map (·.1)).Nodup
      rw [led, List.map_append, List.nodup_append]
      refine ⟨by rw [CellsAre.fst Y]; exact cad.1, S.nd, fun a ha b hb => ?_⟩
      rw [CellsAre.fst Y] at ha
      obtain ⟨p, hp, rfl⟩ := List.mem_map.mp ha
      obtain ⟨p', hp', rfl⟩ := List.mem_map.mp hb
      have z1 := cad.2 p hp
      have z2 := lt p' hp'
      exact fun e => absurd (e ▸ z1 : L' + 1 ≤ p'.1) (Nat.not_le.mpr (Nat.lt_succ_of_lt z2))
  have O' : Ok G c' := ⟨O.Kb, fun b o e => sty _ _ (O.stay _ _ e), O.K.keeps sty, O.T.keeps sty, ⟨_, B'⟩, Around.frames_deeper O.frames, rfl, P.kind, O.hh, P.kind, rfl, rfl, Y⟩
  have ck : ∀ x kd, kindAt x ce.names = some kd → env'.kindOf x = some kd := fun x kd hx => by
    rw [P.names, kindAt_lookup] at hx; exact hx
  have Ck' : CeOk G ce c' := by
    refine ⟨P.gl, fun x hx => ?_, fun x i hi => ?_, by rw [P.names]; exact P.nd, fun x hx => ck x _ hx, fun x hx => ⟨ck x _ hx, ?_⟩⟩
    · unfold isGl at hx
      split at hx
      · exact ck x _ (by assumption)
      · cases hx
    · obtain ⟨d, kd, k1, k2, k3, k4⟩ := slotAt_get hi
      rw [Nat.zero_add] at k1; subst k1
      exact ⟨kd, k2, k4⟩
    · have z := cellsFrom_some scope.names (L' + 1) [] (.inl (ck x _ hx))
      exact Option.isSome_iff_exists.mp z
  have f' : FOk c' := ⟨rfl, rfl⟩
  have nd' : (c'.fenv.cells.map (·.1)).Nodup := by
    show ((cellsFrom (L' + 1) scope.names []).map (·.1)).Nodup
    rw [cellsFrom_names scope.names (L' + 1) 0 [] [] rfl]; exact P.cnd
  have Rn' : Room n c'.A := ⟨by show c.A.depth + 1 + 2 * n < _; have := Rm.1; omega, by show c.A.units + 3 + 20 * n + 200 < _; have := Rm.2; omega⟩
  have rall : VVs G c g (vs ++ fn.dfl.drop (fn.dfl.length - (fn.params.length - vs.length))) (us ++ tail) := by
    refine VRs.appendV rs ?_
    have e1 : tail = ds.drop (fn.dfl.length - (fn.params.length - vs.length)) := by show ds.drop _ = _; rw [a4, a6, a3]
    rw [e1]
    exact VRs.dropV _ (VRs.mono (fun a o q => .inl (O.Kb a o q)) List.nil_prefix _ _ P.dv)
  have Vs₀ : Vars G c' g ce.names r₀ := by
    intro i x kd v' h1 h2 h3
    obtain ⟨p1, p2, p3⟩ := pick_get hb₀
    rcases p3 i v' h3 with ⟨j, j1, j2⟩ | bad
    · obtain ⟨y, y1, y2⟩ := mapGet P.ps j1
      obtain ⟨d, kd', k1, k2, k3, k4⟩ := slotAt_get y2
      rw [Nat.zero_add] at k1; subst k1
      rw [P.names, k2] at h1
      cases h1
      obtain ⟨u, u1, u2⟩ := VRs.get rall j2
      refine ⟨u, ?_, u2⟩
      rcases P.kinds x (List.mem_of_getElem? y1) with z | z
      · exact .inl ⟨z, rfl, bindL_get P.nda y1 u1 z⟩
      · obtain ⟨a, ha⟩ := Option.isSome_iff_exists.mp (cellsFrom_some scope.names (L' + 1) [] (.inl z))
        obtain ⟨o, o1, o2⟩ := CellsAre.at Y ha
        refine .inr (.inr ⟨z, a, o, ha, o1, ?_⟩)
        rw [o2]; exact congrArg _ (bindC_get P.nda y1 u1 z)
    · exfalso
      rw [List.getElem?_replicate] at bad
      split at bad <;> cases bad
  rw [P.body] at e
  cases hx : exs r (body.map (cS 60 ce)) ⟨h.length, h, r₀⟩ with
  | none => rw [hx] at e; cases e
  | some z =>
    obtain ⟨fl, st₁⟩ := z
    rw [hx] at e
    obtain ⟨hb1, a⟩ := exs_ok IH O' f' nd' Rn' Ck' hx
    refine a ⟨c'.m, cells, c'.cm, Y⟩ g { s with heap := h₁, toks := tk } S' Vs₀ (Nat.le_refl _) _ _ fun fl' s' g₁ X' S₁ l₁ q₁ p₁ _ => ?_
    have lg : g.le g₁ := by
      have l₁' : leB h.length g g₁ := l₁
      rw [← S.la] at l₁'; exact l₁'.le
    have ls : ledOf (c'.fx X') g₁ = X'.cells ++ ledOf c g₁ := led X'.cells g₁
    refine leaveK_ (news' := ledOf c g₁) S₁.fr (fun p hp => S₁.news p (by rw [ls]; exact List.mem_append_right _ hp)) fun FF NN => ?_
    have nd₁ := S₁.nd
    rw [ls, List.map_append, List.nodup_append] at nd₁
    have S₂ : Sim G c g₁ st₁.h s'.heap := ⟨FF, NN, nd₁.2.1, S₁.la, S₁.lm, S₁.objs⟩
    have sm : Same s s' := ⟨q₁.os, q₁.gens⟩
    have fin : ∀ w uw, VV G c g₁ w uw → back h.length (some (w, st₁.h)) = some (v, h') → R (.ok (.ret uw)) s' := fun w uw rw' eb => by
      unfold back at eb
      dsimp only at eb
      split at eb
      · rename_i hu
        cases eb
        have hu' := Bool.and_eq_true_iff.mp hu
        exact q uw s' (g₁.cut h.length) (S₂.cut hu'.2) ⟨pre_take lg.as (by rw [S.la]; exact Nat.le_refl _), lg.Z⟩ sm (VR.cut _ _ hu'.1 rw')
      · cases eb
        exact q uw s' g₁ S₂ lg sm rw'
    cases p₁ with
    | next => exact fin _ _ (.d .none) e
    | ret p => exact fin _ _ p e
end Mine
end
section
open PySem PySem.W PyProof.Rows PySem.Calls PySem.SeqAt
set_option linter.unusedVariables false
namespace Mine
variable {G : Gl} {T : Tab}

theorem recX (CK : ∀ C, G.cg C → ClsOk G.K T C) (FK : ∀ f fn, findN f T.funs = some fn → FnOk G f fn) : ∀ n, RecX G T (R T n) n
  | 0 => {
      ok := { fail := fun _ _ => rfl, ev := (fun _ _ _ _ _ _ _ _ _ _ _ e => by cases e), call := (fun _ _ _ _ _ _ _ _ e => by cases e) }
      unf := (fun _ _ _ _ e => by cases e)
      sfail := fun _ => rfl
      ex := (fun _ _ _ _ _ _ _ _ _ _ _ _ e => by cases e) }
  | n + 1 => by
    have IH := recX CK FK n
    exact {
      ok := {
        fail := fun _ _ => rfl
        ev := fun c O Rm k ce x ρ h v h' Ck e => evAll ⟨IH.ok, O, Rm, Ck, CK⟩ e
        call := fun c O Rm f vs h v h' e g s us S rs R' q => by
          have e' : (match findN f T.funs with | some fn => run (R T n) fn vs h | none => none) = some (v, h') := e
          split at e'
          · exact fn_call IH CK O Rm (FK _ _ (by assumption)) e' S rs q
          · cases e' }
      unf := fun e ρ h z hz => ⟨R T n, n, hz, rfl, IH.ok⟩
      sfail := fun _ => rfl
      ex := fun c O f nd Rm k ce x st fl st' Ck e => exAll ⟨⟨IH.ok, O, Rm, Ck, CK⟩, IH, f, nd⟩ e }
end Mine
end
section
open PySem PySem.W PyProof.Rows PySem.Calls PySem.SeqAt
set_option linter.unusedVariables false
set_option linter.unusedSimpArgs false
namespace Mine

theorem findN_lookup {α : Type} {n : Nat} : ∀ {l : List (Nat × α)}, findN n l = l.lookup n
  | [] => rfl
  | (k, x) :: r => by
    unfold findN
    rw [List.lookup_cons]
    cases h : Nat.beq n k with
    | true => rw [Nat.eq_of_beq_eq_true h]; simp
    | false =>
      have : (n == k) = false := by
        rw [beq_eq_false_iff_ne]
        rintro rfl
        rw [Nat.beq_refl] at h; cases h
      rw [this]; exact findN_lookup

theorem readD_ok {K : Frag} : ∀ {n : Nat} {v : Value} {d : PyData}, readD K n v = some d → RD (fun a o => K.lookup a = some o) d v
  | n, .none, d, e => by cases n <;> (cases e; exact .none)
  | n, .bool b, d, e => by cases n <;> (cases e; exact .bool _)
  | n, .int i t, d, e => by cases n <;> (cases e; exact .int _ _)
  | n, .str i t, d, e => by cases n <;> (cases e; exact .str _ _)
  | 0, .ref a, d, e => by cases e
  | n + 1, .ref a, d, e => by
    unfold readD at e
    split at e
    · rename_i xs m sl h
      split at e
      · rename_i l hl
        cases e
        have h' : K.lookup a = some _ := (findN_lookup (l := K)).symm.trans h
        refine .tuple h' rfl rfl ?_
        have all : ∀ {xs : List Value} {l : List PyData}, mapO (readD K n) xs = some l → RDs (fun a o => K.lookup a = some o) l xs := by
          intro xs
          induction xs with
          | nil => intro l h; rw [mapO_nil h]; exact .nil
          | cons x xs ih => intro l h; obtain ⟨y, k, h1, h2, rfl⟩ := mapO_cons h; exact .cons (readD_ok h1) (ih h2)
        exact all hl
      · cases e
    · cases e
  | n, .float _ _, d, e => by cases n <;> cases e
  | n, .type _, d, e => by cases n <;> cases e
  | n, .builtin _, d, e => by cases n <;> cases e
  | n, .bytes .., d, e => by cases n <;> cases e
  | n, .ellipsis, d, e => by cases n <;> cases e
  | n, .notImplemented, d, e => by cases n <;> cases e

/-! names of the text's own globals -/
def okCls : List Nat := [193, 273, 396]
def memN (n : Nat) : List Nat → Bool
  | [] => false
  | k :: r => Nat.beq n k || memN n r
def gl2 (K : Frag) (x : Str) : Option GV := match glOf K x with
  | some (.cls a) => if memN a okCls then some (.cls a) else none
  | some (.val (.sdict m)) => if strEq x "BITS" then some (.val (.sdict m)) else none
  | r => r
structure GlOk (G : Gl) : Prop where
  cg : ∀ a, memN a okCls = true → G.cg a
  bits : ∀ m, glOf G.K "BITS" = some (.val (.sdict m)) → GvOk G "BITS" (.val (.sdict m))
theorem bi_ok {G : Gl} {x : Str} {gv : GV} (hn : nsIn G.K mainGlobals x = some none) (e : biOf x = some gv) : GvOk G x gv := by
  unfold biOf at e
  have key : ∀ {s : Str} {b : BI}, strEq x s = true → bootBuiltins s = some (biVal b) → s ≠ "__name__" → GvOk G x (.bi b) := fun {s b} h1 h2 h3 => by
    have := (strEq_iff _ _).mp h1
    subst this
    exact ⟨hn, h2, h3⟩
  split at e
  · cases e; exact key (by assumption) (by decide +kernel) (by decide)
  split at e
  · cases e; exact key (by assumption) (by decide +kernel) (by decide)
  split at e
  · cases e; exact key (by assumption) (by decide +kernel) (by decide)
  split at e
  · cases e; exact key (by assumption) (by decide +kernel) (by decide)
  split at e
  · cases e; exact key (by assumption) (by decide +kernel) (by decide)
  split at e
  · cases e; exact key (by assumption) (by decide +kernel) (by decide)
  split at e
  · cases e; exact key (by assumption) (by decide +kernel) (by decide)
  split at e
  · cases e; exact key (by assumption) (by decide +kernel) (by decide)
  split at e
  · cases e
    rename_i h1
    have := (strEq_iff _ _).mp h1
    subst this
    exact ⟨hn, by decide +kernel, by decide⟩
  · cases e
theorem gl2_ok {G : Gl} (A : GlOk G) (x : Str) (gv : GV) (e : gl2 G.K x = some gv) : GvOk G x gv := by
  have look : ∀ {a : Nat} {o : Obj}, findN a G.K = some o → G.K.lookup a = some o := fun h => (findN_lookup (l := G.K)).symm.trans h
  have main : ∀ gv, glOf G.K x = some gv → (∀ a, gv ≠ .cls a) → (∀ m, gv ≠ .val (.sdict m)) → GvOk G x gv := by
    intro gv e n1 n2
    unfold glOf at e
    split at e
    · rename_i a hx
      split at e
      · rename_i h
        cases e
        exact ⟨hx, by unfold keepIn; dsimp only; rw [look h]⟩
      · cases e; exact absurd rfl (n1 _)
      · split at e
        · cases e; exact absurd rfl (n2 _)
        · cases e
      · split at e
        · rename_i d hd
          cases e
          exact ⟨_, hx, .d (readD_ok hd)⟩
        · cases e
    · cases e
    · rename_i hx
      exact bi_ok hx e
    · cases e
  unfold gl2 at e
  split at e
  · rename_i a hg
    split at e
    · rename_i hm
      cases e
      refine ⟨?_, A.cg _ hm⟩
      unfold glOf at hg
      split at hg
      · rename_i a' hx
        split at hg
        · cases hg
        · cases hg; exact hx
        · split at hg <;> cases hg
        · split at hg <;> cases hg
      · cases hg
      · exfalso
        unfold biOf at hg
        repeat (split at hg; · cases hg)
        cases hg
      · cases hg
    · cases e
  · rename_i m hg
    split at e
    · rename_i hb
      cases e
      have := (strEq_iff _ _).mp hb
      subst this
      exact A.bits _ hg
    · cases e
  · exact main gv e (fun a z => by subst z; rename_i h1 h2; exact h1 _ e) (fun m z => by subst z; rename_i h1 h2; exact h2 _ e)
end Mine
end
section
open PySem PySem.W PyProof.Rows PySem.Calls PySem.SeqAt
set_option linter.unusedVariables false
set_option linter.unusedSimpArgs false
namespace Mine

def distN : List Nat → Bool
  | [] => true
  | x :: r => !memN x r && distN r
def noneB {α : Type} : Option α → Bool
  | none => true
  | some _ => false
def nilB {α : Type} : List α → Bool
  | [] => true
  | _ :: _ => false
def fnB (K : Frag) (fd : FuncData) (fn : Fn) : Bool :=
  (Nat.beq fd.globals mainGlobals && (nilB fd.closure && (Nat.beq fd.builtins builtinsNs && (codeIn K fd.code fd.qualname && (!fd.scope.isCoroutine && !fd.scope.isGenerator))))) &&
  ((nilB fd.params.posonlyargs && (nilB fd.params.kwonlyargs && (noneB fd.params.vararg && noneB fd.params.kwarg))) &&
  (distS (fd.params.args.map (·.arg)) && (distS (fd.scope.names.map (·.1)) && (((fd.params.args.map (·.arg)).all fun a => match kindAt a fd.scope.names with | some .local => true | some .cell => true | _ => false) &&
    (distS ((cellsFrom 0 fd.scope.names []).map (·.1)) && Nat.ble fn.dfl.length fn.params.length)))))
def tabB (K : Frag) (gl : Str → Option GV) (muts mvs : List (Nat × Nat)) : Bool :=
  distN (K.map (·.1)) && K.all fun p => match p.2.data with
    | .func fd => (match mkFn K gl muts mvs fd with | some fn => fnB K fd fn | none => true)
    | _ => true

theorem distS_nd {l : List Str} (h : distS l = true) : l.Nodup := by
  induction l with
  | nil => exact .nil
  | cons x l ih =>
    have h' := Bool.and_eq_true_iff.mp h
    rw [List.nodup_cons]
    refine ⟨fun hx => ?_, ih h'.2⟩
    have h1 := h'.1
    rw [Bool.not_eq_true', List.any_eq_false] at h1
    exact h1 x hx ((strEq_iff x x).mpr rfl)
theorem memN_mem {x : Nat} : ∀ {l : List Nat}, x ∈ l → memN x l = true
  | k :: r, h => by
    unfold memN
    rcases List.mem_cons.mp h with rfl | h
    · rw [Nat.beq_refl]; rfl
    · rw [memN_mem h, Bool.or_true]
theorem lookup_of_mem {K : Frag} (h : distN (K.map (·.1)) = true) {a : Nat} {o : Obj} (hm : (a, o) ∈ K) : K.lookup a = some o := by
  induction K with
  | nil => cases hm
  | cons p K ih =>
    obtain ⟨b, o'⟩ := p
    have h' := Bool.and_eq_true_iff.mp h
    rcases List.mem_cons.mp hm with e | hm2
    · cases e; simp [List.lookup_cons]
    · rw [List.lookup_cons]
      have : (a == b) = false := by
        rw [beq_eq_false_iff_ne]
        rintro rfl
        have z := memN_mem (List.mem_map_of_mem (f := (·.1)) hm2)
        have h1 := h'.1
        rw [show memN a (K.map (·.1)) = true from z] at h1
        cases h1
      rw [this]
      exact ih h'.2 hm2
theorem findN_mem {α : Type} {n : Nat} {x : α} : ∀ {l : List (Nat × α)}, findN n l = some x → (n, x) ∈ l
  | (k, y) :: r, h => by
    unfold findN at h
    split at h
    · rename_i hk; cases h; rw [Nat.eq_of_beq_eq_true hk]; exact .head _
    · exact .tail _ (findN_mem h)
theorem mkFuns_mem {K : Frag} {gl : Str → Option GV} {muts mvs : List (Nat × Nat)} {a : Nat} {fn : Fn} : ∀ {l : Frag}, (a, fn) ∈ mkFuns K gl muts mvs l → ∃ oc od fd sl, (a, ⟨oc, od, .func fd, sl⟩) ∈ l ∧ mkFn K gl muts mvs fd = some fn
  | [], h => by cases h
  | (b, ⟨oc, od, .func fd, sl⟩) :: r, h => by
    unfold mkFuns at h
    split at h
    · rename_i f hf
      rcases List.mem_cons.mp h with e | h
      · cases e; exact ⟨oc, od, fd, sl, .head _, hf⟩
      · obtain ⟨c, d, e, f, g, h⟩ := mkFuns_mem h; exact ⟨c, d, e, f, .tail _ g, h⟩
    · obtain ⟨c, d, e, f, g, h⟩ := mkFuns_mem h; exact ⟨c, d, e, f, .tail _ g, h⟩
  | (b, ⟨oc, od, dt, sl⟩) :: r, h => by
    have go : (a, fn) ∈ mkFuns K gl muts mvs r → ∃ oc' od' fd sl', (a, ⟨oc', od', .func fd, sl'⟩) ∈ (b, ⟨oc, od, dt, sl⟩) :: r ∧ mkFn K gl muts mvs fd = some fn := fun h => by
      obtain ⟨c, d, e, f, g, h⟩ := mkFuns_mem h; exact ⟨c, d, e, f, .tail _ g, h⟩
    cases dt with
    | func fd =>
      unfold mkFuns at h
      split at h
      · rename_i f hf
        rcases List.mem_cons.mp h with e | h
        · cases e; exact ⟨oc, od, fd, sl, .head _, hf⟩
        · exact go h
      · exact go h
    | _ => exact go h
theorem mapO_map {α β γ : Type} {f : α → β} {g : β → Option γ} : ∀ {l : List α}, mapO (fun a => g (f a)) l = mapO g (l.map f)
  | [] => rfl
  | x :: l => by
    rw [List.map_cons]
    unfold mapO
    rw [mapO_map]
theorem dflOf_ok {G : Gl} {v : Value} {dfl : List V} (h : dflOf G.K v = some dfl) : ∃ ds, VRs G.prog G.w (fun a o => G.K.lookup a = some o) [] dfl ds ∧ ((v = .none ∧ ds = []) ∨ ∃ D o items m, v = .ref D ∧ G.K.lookup D = some o ∧ o.data = .seq items m ∧ ds = items.toList) := by
  unfold dflOf at h
  split at h
  · cases h; exact ⟨[], .nil, .inl ⟨rfl, rfl⟩⟩
  · rename_i a
    split at h
    · rename_i c d xs m sl ho
      refine ⟨xs.toList, ?_, .inr ⟨a, _, xs, m, rfl, (findN_lookup (l := G.K)).symm.trans ho, rfl, rfl⟩⟩
      have all : ∀ {xs : List Value} {l : List V}, mapO (fun v => match readD G.K 3 v with | some d => some (V.d d) | none => none) xs = some l → VRs G.prog G.w (fun a o => G.K.lookup a = some o) [] l xs := by
        intro xs
        induction xs with
        | nil => intro l h; rw [mapO_nil h]; exact .nil
        | cons x xs ih =>
          intro l h
          obtain ⟨y, k, h1, h2, rfl⟩ := mapO_cons h
          split at h1
          · rename_i d hd; cases h1; exact .cons (.d (readD_ok hd)) (ih h2)
          · cases h1
      exact all h
    · cases h
  · cases h

theorem fns_ok {G : Gl} {muts mvs : List (Nat × Nat)} (A : GlOk G) (h : tabB G.K (gl2 G.K) muts mvs = true) (f : Nat) (fn : Fn) (hf : findN f (mkFuns G.K (gl2 G.K) muts mvs G.K) = some fn) : FnOk G f fn := by
  have h' := Bool.and_eq_true_iff.mp h
  obtain ⟨oc, od, fd, sl, hm, hfn⟩ := mkFuns_mem (findN_mem hf)
  have hk := List.all_eq_true.mp h'.2 _ hm
  dsimp only at hk
  rw [hfn] at hk
  dsimp only at hk
  have hl := lookup_of_mem h'.1 hm
  unfold mkFn at hfn
  split at hfn
  case h_2 => cases hfn
  rename_i b hb
  split at hfn
  case h_2 => cases hfn
  rename_i ps ds hps hds hkind
  cases hfn
  unfold fnB at hk
  simp only [Bool.and_eq_true] at hk
  obtain ⟨⟨g1, g2, g3, g4, g5, g6⟩, ⟨p1, p2, p3, p4⟩, q1, q2, q3, q4, q5⟩ := hk
  obtain ⟨dv, hdv, hdf⟩ := dflOf_ok hds
  obtain ⟨name, qual, params, body, scope, globals, closure, defaults, kwdefaults, doc, pyModule, annotations, code, closureTuple, builtins⟩ := fd
  dsimp only at *
  subst hb
  have e1 : globals = mainGlobals := Nat.eq_of_beq_eq_true g1
  have e2 : closure = [] := by cases closure with | nil => rfl | cons _ _ => cases g2
  have e3 : builtins = builtinsNs := Nat.eq_of_beq_eq_true g3
  subst e1 e2 e3
  have nl : ∀ {α : Type} {l : List α}, nilB l = true → l = [] := fun {α l} z => by cases l with | nil => rfl | cons _ _ => cases z
  have no : ∀ {α : Type} {l : Option α}, noneB l = true → l = none := fun {α l} z => by cases l with | none => rfl | some _ => cases z
  refine ⟨name, qual, params, b, scope, defaults, kwdefaults, doc, pyModule, code, closureTuple, oc, annotations, od, sl, ceOf (gl2 G.K) muts mvs _, dv, ⟨hl, g4, rfl, rfl, rfl, mapO_map.symm.trans hps, ⟨nl p1, nl p2, no p3, no p4⟩, distS_nd q1, distS_nd q2, fun a ha => ?_, ?_, by simpa using g5, by simpa using g6, distS_nd q4, gl2_ok A, Nat.le_of_ble_eq_true q5, hdv, hdf⟩⟩
  · have := List.all_eq_true.mp q3 a ha
    rw [← kindAt_lookup]
    split at this
    · exact .inl (by assumption)
    · exact .inr (by assumption)
    · cases this
  · unfold fnKind at hkind
    split at hkind
    · assumption
    · cases hkind
end Mine
end
section
open PySem PySem.W PyProof.Rows PySem.Calls PySem.SeqAt
set_option linter.unusedVariables false
set_option linter.unusedSimpArgs false
namespace Mine

def isNN {α : Type} : Option (Option α) → Bool
  | some none => true
  | _ => false
def isRef (o : Option (Option Value)) (f : Nat) : Bool := match o with
  | some (some (.ref g)) => Nat.beq g f
  | _ => false
def isBi (o : Option (Option Value)) (s : String) : Bool := match o with
  | some (some (.builtin t)) => decide (t = s)
  | _ => false
def clsB (K : Frag) (T : Tab) (C : Nat) : Bool :=
  isBi (findIn K (.ref C) "__setattr__") "object.__setattr__" && (plainOver K C && (hasDictIn K C && (plainGet K C "" && ((attrNames.all fun x => isNN (takerIn K C x) && isNN (findIn K (.ref C) x)) && (makesIn K C && (keepIn K (.ref C) &&
    match findN C T.clss with
    | some cl => isRef (findIn K (.ref C) "__init__") cl.init && (isFn K (.ref cl.init) && cl.meths.all fun p => isRef (findIn K (.ref C) p.1) p.2 && (isFn K (.ref p.2) && keepIn K (.ref p.2)))
    | none => true))))))
theorem isNN_eq {α : Type} {o : Option (Option α)} (h : isNN o = true) : o = some none := by
  unfold isNN at h
  split at h
  · rfl
  · cases h
theorem isRef_eq {o : Option (Option Value)} {f : Nat} (h : isRef o f = true) : o = some (some (.ref f)) := by
  unfold isRef at h
  split at h
  · rw [Nat.eq_of_beq_eq_true h]
  · cases h
theorem isBi_eq {o : Option (Option Value)} {s : String} (h : isBi o s = true) : o = some (some (.builtin s)) := by
  unfold isBi at h
  split at h
  · rw [of_decide_eq_true h]
  · cases h
theorem findS_in {α : Type} {n : Str} {x : α} : ∀ {l : List (Str × α)}, findS n l = some x → (n, x) ∈ l
  | (k, y) :: r, h => by
    unfold findS at h
    split at h
    · rename_i hk; cases h; rw [(strEq_iff _ _).mp hk]; exact .head _
    · exact .tail _ (findS_in h)
theorem cls_ok {K : Frag} {T : Tab} {C : Nat} (h : clsB K T C = true) : ClsOk K T C := by
  unfold clsB at h
  simp only [Bool.and_eq_true] at h
  obtain ⟨h1, h2, h3, h4, h5, h6, h7, h8⟩ := h
  refine ⟨isBi_eq h1, h2, h3, fun x => h4, fun x hx => ?_, h6, h7, fun cl hc => ?_⟩
  · have := List.all_eq_true.mp h5 x hx
    rw [Bool.and_eq_true] at this
    exact ⟨isNN_eq this.1, none, isNN_eq this.2, rfl⟩
  · rw [hc] at h8
    simp only [Bool.and_eq_true] at h8
    refine ⟨isRef_eq h8.1, h8.2.1, fun n f hf => ?_⟩
    have := List.all_eq_true.mp h8.2.2 _ (findS_in hf)
    simp only [Bool.and_eq_true] at this
    exact ⟨isRef_eq this.1, this.2.1, this.2.2⟩
end Mine
end
section
open PySem PySem.W PyProof.Rows PySem.Calls PySem.SeqAt
set_option maxRecDepth 100000
namespace Mine
def muts : List (Nat × Nat) := [(83, 22), (117, 12), (123, 13), (159, 12), (168, 21), (196, 24), (200, 22), (303, 15), (347, 15), (360, 11), (398, 70), (460, 10), (466, 11)]
def mvs : List (Nat × Nat) := [(121, 11), (164, 11), (351, 32)]
noncomputable abbrev KH (P : Params) : Frag := hd.heap_39 P
noncomputable def TT (P : Params) : Tab := ⟨mkFuns (KH P) (gl2 (KH P)) muts mvs (KH P), mkClss (KH P) [] (KH P)⟩
theorem tabB_ok (P : Params) : tabB (KH P) (gl2 (KH P)) muts mvs = true := by kernel_rfl
theorem cls1 (P : Params) : clsB (KH P) (TT P) 193 = true := by kernel_rfl
theorem cls2 (P : Params) : clsB (KH P) (TT P) 273 = true := by kernel_rfl
theorem cls3 (P : Params) : clsB (KH P) (TT P) 396 = true := by kernel_rfl
end Mine
end
section
open PySem PySem.W PyProof.Rows PySem.Calls PySem.SeqAt
set_option linter.unusedVariables false
set_option maxRecDepth 100000
namespace Mine
def bitsEs (P : Params) : Array DictEntry := #[{ hash := PyData.keyHash P ("i8" : Str), key := .str "i8" 246, val := .int 8 247 },
  { hash := PyData.keyHash P ("i16" : Str), key := .str "i16" 248, val := .int 16 249 },
  { hash := PyData.keyHash P ("i32" : Str), key := .str "i32" 250, val := .int 32 251 },
  { hash := PyData.keyHash P ("i64" : Str), key := .str "i64" 252, val := .int 64 253 },
  { hash := PyData.keyHash P ("u8" : Str), key := .str "u8" 254, val := .int 8 255 },
  { hash := PyData.keyHash P ("u16" : Str), key := .str "u16" 256, val := .int 16 257 },
  { hash := PyData.keyHash P ("u32" : Str), key := .str "u32" 258, val := .int 32 259 },
  { hash := PyData.keyHash P ("u64" : Str), key := .str "u64" 260, val := .int 64 261 },
  { hash := PyData.keyHash P ("usize" : Str), key := .str "usize" 262, val := .int 64 263 }]
def bitsObj (P : Params) : Obj := { cls := .type "dict", data := .dict (bitsEs P) 9 }
def bitsKv : List (Str × Value) := [("i8", .int 8 247), ("i16", .int 16 249), ("i32", .int 32 251), ("i64", .int 64 253), ("u8", .int 8 255), ("u16", .int 16 257), ("u32", .int 32 259), ("u64", .int 64 261), ("usize", .int 64 263)]
def bitsM : List (Str × PyData) := [("i8", .int 8), ("i16", .int 16), ("i32", .int 32), ("i64", .int 64), ("u8", .int 8), ("u16", .int 16), ("u32", .int 32), ("u64", .int 64), ("usize", .int 64)]
theorem bits_at (P : Params) : (KH P).lookup 55 = some (bitsObj P) := by kernel_rfl
theorem bits_gl (P : Params) : glOf (KH P) "BITS" = some (.val (.sdict bitsM)) := by kernel_rfl
theorem bits_ns (P : Params) : nsIn (KH P) mainGlobals "BITS" = some (some (.ref 55)) := by kernel_rfl
theorem bits_dict (prog : Program) (w : World) : (bitsObj w.params).IsDictOf (PySem.strKind prog w) bitsKv := by
  refine ⟨bitsEs w.params, 9, ⟨rfl, rfl, rfl⟩, rfl, ?_, ?_, ?_⟩
  · intro e he
    have he' : e ∈ (bitsEs w.params).toList := by simpa using he
    simp only [bitsEs, List.mem_cons, List.not_mem_nil, or_false] at he'
    rcases he' with rfl | rfl | rfl | rfl | rfl | rfl | rfl | rfl | rfl
    · exact ⟨"i8", strKind_is _ _ _ _, rfl⟩
    · exact ⟨"i16", strKind_is _ _ _ _, rfl⟩
    · exact ⟨"i32", strKind_is _ _ _ _, rfl⟩
    · exact ⟨"i64", strKind_is _ _ _ _, rfl⟩
    · exact ⟨"u8", strKind_is _ _ _ _, rfl⟩
    · exact ⟨"u16", strKind_is _ _ _ _, rfl⟩
    · exact ⟨"u32", strKind_is _ _ _ _, rfl⟩
    · exact ⟨"u64", strKind_is _ _ _ _, rfl⟩
    · exact ⟨"usize", strKind_is _ _ _ _, rfl⟩
  · exact .cons (strKind_is _ _ _ _) rfl (.cons (strKind_is _ _ _ _) rfl (.cons (strKind_is _ _ _ _) rfl (.cons (strKind_is _ _ _ _) rfl (.cons (strKind_is _ _ _ _) rfl (.cons (strKind_is _ _ _ _) rfl (.cons (strKind_is _ _ _ _) rfl (.cons (strKind_is _ _ _ _) rfl (.cons (strKind_is _ _ _ _) rfl (.nil)))))))))
  · decide
theorem bits_pd (K : Addr → Obj → Prop) : PD (RD K) bitsM bitsKv := .cons (.int _ _) (.cons (.int _ _) (.cons (.int _ _) (.cons (.int _ _) (.cons (.int _ _) (.cons (.int _ _) (.cons (.int _ _) (.cons (.int _ _) (.cons (.int _ _) (.nil)))))))))

noncomputable def GG (prog : Program) (w : World) (p : Program) (loose : List Str) (mg mb : Str → Option Value) : Gl := { prog := prog, w := w, K := KH w.params, p := p, loose := loose, mg := mg, mb := mb, cg := fun C => memN C okCls = true }
theorem gl_ok (prog : Program) (w : World) (p : Program) (loose : List Str) (mg mb : Str → Option Value) : GlOk (GG prog w p loose mg mb) where
  cg := fun a h => h
  bits := fun m h => by
    have h' : glOf (KH w.params) "BITS" = some (.val (.sdict m)) := h
    rw [bits_gl] at h'
    cases h'
    exact ⟨.ref 55, bits_ns w.params, .sdict (bits_at w.params) (bits_dict prog w) (bits_pd _)⟩
theorem cls_all (prog : Program) (w : World) (p : Program) (loose : List Str) (mg mb : Str → Option Value) (C : Nat) (h : (GG prog w p loose mg mb).cg C) : ClsOk (GG prog w p loose mg mb).K (TT w.params) C := by
  have h' : memN C okCls = true := h
  have : C = 193 ∨ C = 273 ∨ C = 396 := by
    simp only [okCls, memN, Bool.or_eq_true, Bool.or_false] at h'
    rcases h' with h | h | h
    · exact .inl (Nat.eq_of_beq_eq_true h)
    · exact .inr (.inl (Nat.eq_of_beq_eq_true h))
    · exact .inr (.inr (Nat.eq_of_beq_eq_true h))
  rcases this with rfl | rfl | rfl
  · exact cls_ok (cls1 w.params)
  · exact cls_ok (cls2 w.params)
  · exact cls_ok (cls3 w.params)
theorem rec_all (prog : Program) (w : World) (p : Program) (loose : List Str) (mg mb : Str → Option Value) (n : Nat) : RecX (GG prog w p loose mg mb) (TT w.params) (R (TT w.params) n) n :=
  recX (cls_all prog w p loose mg mb) (fns_ok (gl_ok prog w p loose mg mb) (tabB_ok w.params)) n
end Mine
end
section
open PySem PySem.W PyProof.Rows PySem.Calls PySem.SeqAt
set_option linter.unusedVariables false
set_option maxRecDepth 100000
namespace Mine
def lawP (a b d e f : Nat) : Pos := { line := a, col := b, endLine := d, endCol := e }
def lawStmt : PySem.Stmt := .Return (some (.BoolOp .And
  [.Call (.Name (Str.ofString "_law_row_right") { line := 474, col := 11, endLine := 474, endCol := 25 })
      [.Call (.Name (Str.ofString "_law_pool") { line := 474, col := 26, endLine := 474, endCol := 35 })
          [.Name (Str.ofString "script") { line := 474, col := 36, endLine := 474, endCol := 42 }, .List [] { line := 474, col := 44, endLine := 474, endCol := 46 }] [] { line := 474, col := 26, endLine := 474, endCol := 47 }]
      [] { line := 474, col := 11, endLine := 474, endCol := 48 },
    .Call (.Name (Str.ofString "_law_round_right") { line := 474, col := 53, endLine := 474, endCol := 69 }) [] [] { line := 474, col := 53, endLine := 474, endCol := 71 },
    .Call (.Name (Str.ofString "_law_lent_right") { line := 474, col := 76, endLine := 474, endCol := 91 }) [] [] { line := 474, col := 76, endLine := 474, endCol := 93 }]
  { line := 474, col := 11, endLine := 474, endCol := 93 })) { line := 474, col := 4, endLine := 474, endCol := 93 }
def lawNames : List (Str × NameKind) := [(Str.ofString "script", .local), (Str.ofString "_law_row_right", .globalImplicit), (Str.ofString "_law_pool", .globalImplicit), (Str.ofString "_law_round_right", .globalImplicit), (Str.ofString "_law_lent_right", .globalImplicit)]
noncomputable def lawCE (P : Params) : CE := ⟨lawNames, gl2 (KH P), muts, mvs⟩
def Runs : Prop := ∀ (P : Params) (ns : List Int), ns.length ≤ 63 → ∃ st', exs (R (TT P) 340) ([lawStmt].map (cS 60 (lawCE P))) ⟨0, [], [some (.d (.list (ns.map .int))), none, none, none, none]⟩ = some (.ret (.d (.bool true)), st')

theorem ints_rds {kn : Addr → Obj → Prop} {vs : List Value} {ns : List Int} (h : IntsAre vs ns) : RDs kn (ns.map .int) vs := by
  induction h with
  | nil => exact .nil
  | cons n t _ ih => exact .cons (.int _ _) ih

theorem top_go {prog : Program} {w : World} {s₁ : Shared} {h₁ : Heap} {mg mb : Str → Option Value} {p : Program} {loose : List Str} {mean : ExcName → Option Value} {a fa : Addr} {vs : List Value} {ns : List Int} {cd : Value} {name : Str} {scope : Scope} {tk : Nat} {body : List PySem.Stmt}
    {E : Value → Shared → Prop} {Q : Flow → Shared → Prop} {m : Str → Option Value} (RU : Runs) (hb : body = [lawStmt]) (hn : scope.names = lawNames) (hk : scope.kind = .function)
    (KX : (hd.heap_39 w.params).In s₁.heap) (T : Top p loose mean mg mb s₁.heap) (K0 : Below callerA s₁.heap [] s₁.heap) (F : Fr s₁.heap s₁.heap.objs.size h₁ m) (hm : m "script" = some (.ref a))
    (hL : s₁.heap.IsList a vs.toArray) (hI : IntsAre vs ns) (hlen : ns.length ≤ 63)
    (q : ∀ s' m', Fr s₁.heap s₁.heap.objs.size s'.heap m' → s'.os = s₁.os → s'.gens = s₁.gens → Q (.ret (.bool true)) s') :
    wpAny (model prog w) (callerA.deeper (envOf name scope s₁.heap.objs.size fa cd)) (execs body (envOf name scope s₁.heap.objs.size fa cd)) Q E { heap := h₁, gens := s₁.gens, drawn := s₁.drawn, toks := tk, os := s₁.os } := by
  subst hb
  let env := envOf name scope s₁.heap.objs.size fa cd
  let c : Cx := { hb := s₁.heap, base := s₁.heap, outer := [], h₀ := s₁.heap, L := s₁.heap.objs.size, m := m, fenv := env, env := env, A := callerA.deeper env, cells := [], cm := fun _ => none, pri := [] }
  let G : Gl := GG prog w p loose mg mb
  have O : Ok G c := ⟨KX, fun _ _ e => e, KX, topRead_of T, ⟨_, K0⟩, Around.frames_deeper K0.stack, rfl, hk, rfl, hk, rfl, rfl, .nil⟩
  have hsc : scopeOk lawNames = true := by decide +kernel
  have ck : ∀ x kd, kindAt x lawNames = some kd → env.kindOf x = some kd := fun x kd h => by
    rw [kindAt_lookup] at h
    show scope.names.lookup x = _
    rw [hn]; exact h
  have Ck : CeOk G (lawCE w.params) c := by
    refine ⟨gl2_ok (gl_ok prog w p loose mg mb), fun x hx => ?_, fun x i hi => ?_, scopeOk_nd hsc, fun x hx => ck x _ hx, fun x hx => absurd rfl (scopeOk_mem hsc (kindAt_mem hx)).2⟩
    · have hx' : isGl x lawNames = true := hx
      unfold isGl at hx'
      split at hx'
      · exact ck x _ (by assumption)
      · cases hx'
    · obtain ⟨d, kd, k1, k2, k3, k4⟩ := slotAt_get hi
      rw [Nat.zero_add] at k1; subst k1
      exact ⟨kd, k2, k4⟩
  have Rm : Room 340 c.A := by
    refine ⟨?_, ?_⟩
    · show 1 + claimMargin + 1 + 2 * 340 < recursionLimit; decide +kernel
    · show 4 + 3 + 20 * 340 + 200 < cLine; decide +kernel
  obtain ⟨st', hrun⟩ := RU w.params ns hlen
  obtain ⟨hb1, run⟩ := exs_ok (rec_all prog w p loose mg mb 340) O ⟨rfl, rfl⟩ List.nodup_nil Rm Ck hrun
  let s₂ : Shared := { heap := h₁, gens := s₁.gens, drawn := s₁.drawn, toks := tk, os := s₁.os }
  refine run ⟨m, [], fun _ => none, .nil⟩ ⟨[], [], []⟩ s₂ ⟨F, News.nil, List.nodup_nil, rfl, rfl, fun i o a b e => by cases e⟩ ?_ (Nat.le_refl _) E Q ?_
  · intro i x kd v h1 h2 h3
    match i, h1, h3 with
    | 0, h1, h3 =>
      cases h1; cases h3
      refine ⟨.ref a, .inl ⟨ck _ _ rfl, rfl, hm⟩, ?_⟩
      obtain ⟨o, ho, hc, nn, hd⟩ := hL
      exact .d (.list (.inl ho) hc hd (ints_rds hI))
    | 1, _, h3 => cases h3
    | 2, _, h3 => cases h3
    | 3, _, h3 => cases h3
    | 4, _, h3 => cases h3
    | i + 5, h1, _ => cases h1
  · intro fl' s' g' X' S' l' q' p' _
    cases p' with
    | ret rv =>
      cases rv with
      | d rv =>
        cases rv
        exact q s' _ S'.fr q'.os q'.gens
end Mine

theorem Mine.close (RU : Mine.Runs) : PySem.Challenge.rw_ot0035_01.Holds := by
  refine Mine.hd ?_
  w_strict (k_go0)
  rename_i w s₀ s₁ mg mb G Y fa o pm doc kV ho hg KX X V GL T B TE TW w9 w8 M w7 w6 hcd ns hs hlay hL hr hl2 w4 w3 a vs w1 hLi ra w1' r0 hI hr' hc1 hc2 K0 hD h₁ F N0
  refine Mine.top_go (ns := ns) RU rfl rfl rfl KX T K0 F rfl hLi hI (by omega) fun s' m' F' h1 h2 => ?_
  refine goodW_bool F' (h2.trans hg) (raisesW_false ?_) ?_ h1
  · wrow_none_raised
  · wrow_post
end
section
open PySem PySem.W
set_option maxRecDepth 100000
namespace Mine
def fn_21 : Fn := ⟨"_wall", [0], [], 1,
    [(.while_ (.lit (.bool true)) [.fail])]⟩
theorem at_21 (P : Params) : findN 21 (TT P).funs = some fn_21 := by kernel_rfl
def fn_36 : Fn := ⟨"LendError.__init__", [0, 1, 2], [(.d (.int (0)))], 4,
    [(.expr (.methI "__init__" .fail [(.var 0), (.var 1)])),
    .fail,
    .fail]⟩
theorem at_36 (P : Params) : findN 36 (TT P).funs = some fn_36 := by kernel_rfl
def fn_62 : Fn := ⟨"is_signed", [0], [], 1,
    [(.ret (.cmp .Eq (.sub (.var 0) (.lit (.int (0)))) (.lit (.str "i"))))]⟩
theorem at_62 (P : Params) : findN 62 (TT P).funs = some fn_62 := by kernel_rfl
def fn_69 : Fn := ⟨"least", [0], [], 3,
    [(.ret (.ite (.callF 62 [(.var 0)]) (.bin .Sub (.lit (.int (0))) (.bin .Pow (.lit (.int (2))) (.bin .Sub (.sub (.glob (.sdict [("i8", (.int (8))), ("i16", (.int (16))), ("i32", (.int (32))), ("i64", (.int (64))), ("u8", (.int (8))), ("u16", (.int (16))), ("u32", (.int (32))), ("u64", (.int (64))), ("usize", (.int (64)))])) (.var 0)) (.lit (.int (1)))))) (.lit (.int (0)))))]⟩
theorem at_69 (P : Params) : findN 69 (TT P).funs = some fn_69 := by kernel_rfl
def fn_76 : Fn := ⟨"greatest", [0], [], 3,
    [(.ret (.ite (.callF 62 [(.var 0)]) (.bin .Sub (.bin .Pow (.lit (.int (2))) (.bin .Sub (.sub (.glob (.sdict [("i8", (.int (8))), ("i16", (.int (16))), ("i32", (.int (32))), ("i64", (.int (64))), ("u8", (.int (8))), ("u16", (.int (16))), ("u32", (.int (32))), ("u64", (.int (64))), ("usize", (.int (64)))])) (.var 0)) (.lit (.int (1))))) (.lit (.int (1)))) (.bin .Sub (.bin .Pow (.lit (.int (2))) (.sub (.glob (.sdict [("i8", (.int (8))), ("i16", (.int (16))), ("i32", (.int (32))), ("i64", (.int (64))), ("u8", (.int (8))), ("u16", (.int (16))), ("u32", (.int (32))), ("u64", (.int (64))), ("usize", (.int (64)))])) (.var 0))) (.lit (.int (1))))))]⟩
theorem at_76 (P : Params) : findN 76 (TT P).funs = some fn_76 := by kernel_rfl
def fn_83 : Fn := ⟨"fits", [0, 1], [], 4,
    [(.ret (.cmp2 .LtE .LtE (.callF 69 [(.var 0)]) (.var 1) (.callF 76 [(.var 0)])))]⟩
theorem at_83 (P : Params) : findN 83 (TT P).funs = some fn_83 := by kernel_rfl
def fn_90 : Fn := ⟨"wrapped", [0, 1], [], 5,
    [(.asg 2 (.callF 69 [(.var 0)])),
    (.ret (.bin .Add (.var 2) (.bin .Mod (.bin .Sub (.var 1) (.var 2)) (.bin .Pow (.lit (.int (2))) (.sub (.glob (.sdict [("i8", (.int (8))), ("i16", (.int (16))), ("i32", (.int (32))), ("i64", (.int (64))), ("u8", (.int (8))), ("u16", (.int (16))), ("u32", (.int (32))), ("u64", (.int (64))), ("usize", (.int (64)))])) (.var 0))))))]⟩
theorem at_90 (P : Params) : findN 90 (TT P).funs = some fn_90 := by kernel_rfl
def fn_97 : Fn := ⟨"cast_int", [0, 1], [], 4,
    [(.ret (.callF 90 [(.var 0), (.callB false .int [(.var 1)])]))]⟩
theorem at_97 (P : Params) : findN 97 (TT P).funs = some fn_97 := by kernel_rfl
def fn_104 : Fn := ⟨"cut_quotient", [0, 1], [], 4,
    [(.asg 2 (.bin .FloorDiv (.callB false .abs [(.var 0)]) (.callB false .abs [(.var 1)]))),
    (.ret (.ite (.cmp .Eq (.cmp .Lt (.var 0) (.lit (.int (0)))) (.cmp .Lt (.var 1) (.lit (.int (0))))) (.var 2) (.bin .Sub (.lit (.int (0))) (.var 2))))]⟩
theorem at_104 (P : Params) : findN 104 (TT P).funs = some fn_104 := by kernel_rfl
def fn_111 : Fn := ⟨"exact", [0, 1, 2], [], 5,
    [(.ite (.cmp .Eq (.var 0) (.lit (.str "+"))) [(.ret (.bin .Add (.var 1) (.var 2)))] []),
    (.ite (.cmp .Eq (.var 0) (.lit (.str "-"))) [(.ret (.bin .Sub (.var 1) (.var 2)))] []),
    (.ite (.cmp .Eq (.var 0) (.lit (.str "*"))) [(.ret (.bin .Mult (.var 1) (.var 2)))] []),
    (.ite (.cmp .Eq (.var 0) (.lit (.str "&"))) [(.ret (.bin .BitAnd (.var 1) (.var 2)))] []),
    (.ite (.cmp .Eq (.var 0) (.lit (.str "|"))) [(.ret (.bin .BitOr (.var 1) (.var 2)))] []),
    (.ite (.cmp .Eq (.var 0) (.lit (.str "^"))) [(.ret (.bin .BitXor (.var 1) (.var 2)))] []),
    (.ite (.cmp .NotIn (.var 0) (.tup [(.lit (.str "/")), (.lit (.str "%"))])) [.fail] []),
    (.ite (.cmp .Eq (.var 2) (.lit (.int (0)))) [(.ret (.lit .none))] []),
    (.ret (.ite (.cmp .Eq (.var 0) (.lit (.str "/"))) (.callF 104 [(.var 1), (.var 2)]) (.bin .Sub (.var 1) (.bin .Mult (.var 2) (.callF 104 [(.var 1), (.var 2)])))))]⟩
theorem at_111 (P : Params) : findN 111 (TT P).funs = some fn_111 := by kernel_rfl
def fn_118 : Fn := ⟨"checked", [0, 1, 2, 3], [], 11,
    [(.ite (.cmp .In (.var 1) (.tup [(.lit (.str "<<")), (.lit (.str ">>"))])) [(.ret (.callF 125 [(.var 0), (.var 1), (.var 2), (.var 3)]))] []),
    (.asg 4 (.callF 111 [(.var 1), (.var 2), (.var 3)])),
    (.ite (.cmp .Is (.var 4) (.lit .none)) [(.ret (.tup [(.lit .none), (.lit (.bool false))]))] []),
    (.ite (.bop true [(.cmp .Eq (.var 1) (.lit (.str "%"))), (.cmp .Eq (.var 3) (.neg (.lit (.int (1))))), (.callF 62 [(.var 0)])]) [(.ret (.tup [(.lit (.int (0))), (.cmp .Eq (.var 2) (.callF 69 [(.var 0)]))]))] []),
    (.ret (.tup [(.callF 90 [(.var 0), (.var 4)]), (.not (.callF 83 [(.var 0), (.var 4)]))]))]⟩
theorem at_118 (P : Params) : findN 118 (TT P).funs = some fn_118 := by kernel_rfl
def fn_125 : Fn := ⟨"shifted", [0, 1, 2, 3], [], 8,
    [(.asg 4 (.bin .Mod (.var 3) (.sub (.glob (.sdict [("i8", (.int (8))), ("i16", (.int (16))), ("i32", (.int (32))), ("i64", (.int (64))), ("u8", (.int (8))), ("u16", (.int (16))), ("u32", (.int (32))), ("u64", (.int (64))), ("usize", (.int (64)))])) (.var 0)))),
    (.asg 5 (.ite (.cmp .Eq (.var 1) (.lit (.str "<<"))) (.bin .Mult (.var 2) (.bin .Pow (.lit (.int (2))) (.var 4))) (.bin .FloorDiv (.var 2) (.bin .Pow (.lit (.int (2))) (.var 4))))),
    (.ret (.tup [(.callF 90 [(.var 0), (.var 5)]), (.not (.cmp2 .LtE .Lt (.lit (.int (0))) (.var 3) (.sub (.glob (.sdict [("i8", (.int (8))), ("i16", (.int (16))), ("i32", (.int (32))), ("i64", (.int (64))), ("u8", (.int (8))), ("u16", (.int (16))), ("u32", (.int (32))), ("u64", (.int (64))), ("usize", (.int (64)))])) (.var 0))))]))]⟩
theorem at_125 (P : Params) : findN 125 (TT P).funs = some fn_125 := by kernel_rfl
def fn_132 : Fn := ⟨"compared", [0, 1, 2], [], 4,
    [(.ite (.cmp .Eq (.var 0) (.lit (.str "=="))) [(.ret (.cmp .Eq (.var 1) (.var 2)))] []),
    (.ite (.cmp .Eq (.var 0) (.lit (.str "!="))) [(.ret (.cmp .NotEq (.var 1) (.var 2)))] []),
    (.ite (.cmp .Eq (.var 0) (.lit (.str "<"))) [(.ret (.cmp .Lt (.var 1) (.var 2)))] []),
    (.ite (.cmp .Eq (.var 0) (.lit (.str "<="))) [(.ret (.cmp .LtE (.var 1) (.var 2)))] []),
    (.ite (.cmp .Eq (.var 0) (.lit (.str ">"))) [(.ret (.cmp .Gt (.var 1) (.var 2)))] []),
    (.ite (.cmp .Eq (.var 0) (.lit (.str ">="))) [(.ret (.cmp .GtE (.var 1) (.var 2)))] []),
    .fail]⟩
theorem at_132 (P : Params) : findN 132 (TT P).funs = some fn_132 := by kernel_rfl
def fn_147 : Fn := ⟨"Body.__init__", [0, 1, 2, 3, 4, 5], [(.d .none), (.d .none)], 7,
    [(.asgA (.var 0) "name" (.var 1)),
    (.asgA (.var 0) "arg_count" (.var 2)),
    (.asgA (.var 0) "locals" (.callB false .list [(.var 3)])),
    (.asgA (.var 0) "blocks" (.ite (.cmp .Is (.var 4) (.lit .none)) (.lst true []) (.var 4))),
    (.asgA (.var 0) "spots" (.ite (.cmp .Is (.var 5) (.lit .none)) (.dsp false [] []) (.var 5)))]⟩
theorem at_147 (P : Params) : findN 147 (TT P).funs = some fn_147 := by kernel_rfl
def fn_154 : Fn := ⟨"Body.type_of", [0, 1], [], 2,
    [(.ret (.sub (.sub (.attr (.var 0) "locals") (.var 1)) (.lit (.int (0)))))]⟩
theorem at_154 (P : Params) : findN 154 (TT P).funs = some fn_154 := by kernel_rfl
def fn_161 : Fn := ⟨"Body.args", [0], [], 2,
    [(.expr (.callF 21 [(.lit (.int (0)))]))]⟩
theorem at_161 (P : Params) : findN 161 (TT P).funs = some fn_161 := by kernel_rfl
def fn_168 : Fn := ⟨"Body.statements", [0, 1], [], 2,
    [(.ret (.sub (.sub (.attr (.var 0) "blocks") (.var 1)) (.lit (.int (0)))))]⟩
theorem at_168 (P : Params) : findN 168 (TT P).funs = some fn_168 := by kernel_rfl
def fn_175 : Fn := ⟨"Body.terminator", [0, 1], [], 2,
    [(.ret (.sub (.sub (.attr (.var 0) "blocks") (.var 1)) (.lit (.int (1)))))]⟩
theorem at_175 (P : Params) : findN 175 (TT P).funs = some fn_175 := by kernel_rfl
def fn_182 : Fn := ⟨"Body.spot", [0, 1], [], 2,
    [(.ret (.methB .get (.attr (.var 0) "spots") [(.var 1), (.lit (.int (0)))]))]⟩
theorem at_182 (P : Params) : findN 182 (TT P).funs = some fn_182 := by kernel_rfl
def fn_190 : Fn := ⟨"Body.new_local", [0, 1, 2, 3], [(.d (.bool true)), (.d .none)], 5,
    [(.expr (.callF 21 [(.lit (.int (1)))]))]⟩
theorem at_190 (P : Params) : findN 190 (TT P).funs = some fn_190 := by kernel_rfl
def fn_202 : Fn := ⟨"successors", [0], [], 5,
    [(.asg 1 (.sub (.var 0) (.lit (.int (0))))),
    (.ite (.cmp .Eq (.var 1) (.lit (.str "goto"))) [(.asg 2 (.lst false [(.sub (.var 0) (.lit (.int (1))))]))] [(.ite (.cmp .Eq (.var 1) (.lit (.str "switch"))) [(.asg 2 (.bin .Add (.comp false (.var 2) (.many [1, 2]) (.sub (.var 0) (.lit (.int (2)))) [] [none, none, none]) (.lst false [(.sub (.var 0) (.lit (.int (3))))])))] [(.ite (.cmp .Eq (.var 1) (.lit (.str "call"))) [(.asg 2 (.lst false [(.sub (.var 0) (.lit (.int (4))))]))] [(.ite (.cmp .Eq (.var 1) (.lit (.str "drop"))) [(.asg 2 (.lst false [(.sub (.var 0) (.lit (.int (2))))]))] [(.ite (.cmp .Eq (.var 1) (.lit (.str "assert"))) [(.asg 2 (.lst false [(.sub (.var 0) (.lit (.int (4))))]))] [(.asg 2 (.lst false []))])])])])]),
    (.asg 4 (.lst true [])),
    (.for_ (.one 3) (.var 2) [(.ite (.bop true [(.cmp .IsNot (.var 3) (.lit .none)), (.cmp .NotIn (.var 3) (.var 4))]) [(.expr (.methB .append (.var 4) [(.var 3)]))] [])]),
    (.retM 4)]⟩
theorem at_202 (P : Params) : findN 202 (TT P).funs = some fn_202 := by kernel_rfl
def fn_207 : Fn := ⟨"copied", [0], [], 4,
    [(.asg 1 (.comp true (.lst false [(.callB false .list [(.var 1)]), (.var 2)]) (.many [1, 2]) (.attr (.var 0) "blocks") [] [none, none, none, none])),
    (.ret (.callC 193 [(.attr (.var 0) "name"), (.attr (.var 0) "arg_count"), (.attr (.var 0) "locals"), (.var 1), (.callB false .dict [(.attr (.var 0) "spots")])]))]⟩
theorem at_207 (P : Params) : findN 207 (TT P).funs = some fn_207 := by kernel_rfl
def fn_214 : Fn := ⟨"operands_of", [0], [], 3,
    [(.asg 1 (.sub (.var 0) (.lit (.int (0))))),
    (.ite (.cmp .In (.var 1) (.tup [(.lit (.str "use")), (.lit (.str "box"))])) [(.ret (.lst false [(.sub (.var 0) (.lit (.int (1))))]))] []),
    (.ite (.cmp .In (.var 1) (.tup [(.lit (.str "binary")), (.lit (.str "checked"))])) [(.ret (.lst false [(.sub (.var 0) (.lit (.int (2)))), (.sub (.var 0) (.lit (.int (3))))]))] []),
    (.ite (.cmp .Eq (.var 1) (.lit (.str "unary"))) [(.ret (.lst false [(.sub (.var 0) (.lit (.int (2))))]))] []),
    (.ite (.cmp .Eq (.var 1) (.lit (.str "cast"))) [(.ret (.lst false [(.sub (.var 0) (.lit (.int (1))))]))] []),
    (.ite (.cmp .In (.var 1) (.tup [(.lit (.str "tuple")), (.lit (.str "array"))])) [(.ret (.callB false .list [(.sub (.var 0) (.lit (.int (1))))]))] []),
    (.ret (.ite (.cmp .Eq (.var 1) (.lit (.str "adt"))) (.callB false .list [(.sub (.var 0) (.lit (.int (3))))]) (.lst false [])))]⟩
theorem at_214 (P : Params) : findN 214 (TT P).funs = some fn_214 := by kernel_rfl
def fn_221 : Fn := ⟨"with_operands", [0, 1], [], 4,
    [(.asg 2 (.sub (.var 0) (.lit (.int (0))))),
    (.ite (.cmp .In (.var 2) (.tup [(.lit (.str "use")), (.lit (.str "box"))])) [(.ret (.tup [(.var 2), (.sub (.var 1) (.lit (.int (0))))]))] []),
    (.ite (.cmp .In (.var 2) (.tup [(.lit (.str "binary")), (.lit (.str "checked"))])) [(.ret (.tup [(.var 2), (.sub (.var 0) (.lit (.int (1)))), (.sub (.var 1) (.lit (.int (0)))), (.sub (.var 1) (.lit (.int (1))))]))] []),
    (.ite (.cmp .Eq (.var 2) (.lit (.str "unary"))) [(.ret (.tup [(.var 2), (.sub (.var 0) (.lit (.int (1)))), (.sub (.var 1) (.lit (.int (0))))]))] []),
    (.ite (.cmp .Eq (.var 2) (.lit (.str "cast"))) [(.ret (.tup [(.var 2), (.sub (.var 1) (.lit (.int (0)))), (.sub (.var 0) (.lit (.int (2))))]))] []),
    (.ite (.cmp .In (.var 2) (.tup [(.lit (.str "tuple")), (.lit (.str "array"))])) [(.ret (.tup [(.var 2), (.callB false .tuple [(.var 1)])]))] []),
    (.ret (.ite (.cmp .Eq (.var 2) (.lit (.str "adt"))) (.bin .Add (.slc (.var 0) none (some (.lit (.int (3))))) (.tup [(.callB false .tuple [(.var 1)])])) (.var 0)))]⟩
theorem at_221 (P : Params) : findN 221 (TT P).funs = some fn_221 := by kernel_rfl
def fn_228 : Fn := ⟨"is_followed", [0], [], 2,
    [(.ite (.cmp .Eq (.sub (.var 0) (.lit (.int (0)))) (.lit (.str "tuple"))) [(.ret (.cmp .Eq (.comp false (.var 1) (.one 1) (.sub (.var 0) (.lit (.int (1)))) [(.cmp .NotIn (.sub (.var 1) (.lit (.int (0)))) (.glob (.d (.tuple [(.str "int"), (.str "bool")]))))] [none, none, none]) (.lst false [])))] []),
    (.ret (.cmp .In (.sub (.var 0) (.lit (.int (0)))) (.glob (.d (.tuple [(.str "int"), (.str "bool")])))))]⟩
theorem at_228 (P : Params) : findN 228 (TT P).funs = some fn_228 := by kernel_rfl
def fn_235 : Fn := ⟨"lent_locals", [0], [], 5,
    [(.asg 1 (.dsp true [] [])),
    (.for_ (.many [2, 3]) (.attr (.var 0) "blocks") [(.for_ (.one 4) (.var 2) [(.ite (.bop true [(.cmp .Eq (.sub (.var 4) (.lit (.int (0)))) (.lit (.str "assign"))), (.cmp .Eq (.sub (.sub (.var 4) (.lit (.int (2)))) (.lit (.int (0)))) (.lit (.str "ref")))]) [(.asgS (.var 1) (.sub (.sub (.sub (.var 4) (.lit (.int (2)))) (.lit (.int (3)))) (.lit (.int (0)))) (.lit (.bool true)))] [])])]),
    (.retM 1)]⟩
theorem at_235 (P : Params) : findN 235 (TT P).funs = some fn_235 := by kernel_rfl
def fn_249 : Fn := ⟨"Facts.__init__", [0, 1], [], 3,
    [(.asgA (.var 0) "known" (.callB true .dict [(.var 1)]))]⟩
theorem at_249 (P : Params) : findN 249 (TT P).funs = some fn_249 := by kernel_rfl
def fn_256 : Fn := ⟨"Facts.at_place", [0, 1], [], 4,
    [(.asg 2 (.methB .get (.attr (.var 0) "known") [(.sub (.var 1) (.lit (.int (0))))])),
    (.for_ (.one 3) (.sub (.var 1) (.lit (.int (1)))) [(.ite (.bop false [(.cmp .Is (.var 2) (.lit .none)), (.cmp .NotEq (.sub (.var 3) (.lit (.int (0)))) (.lit (.str "field")))]) [(.ret (.lit .none))] []),
    (.asg 2 (.sub (.var 2) (.sub (.var 3) (.lit (.int (1))))))]),
    (.ret (.var 2))]⟩
theorem at_256 (P : Params) : findN 256 (TT P).funs = some fn_256 := by kernel_rfl
def fn_263 : Fn := ⟨"Facts.at_operand", [0, 1], [], 3,
    [(.ite (.cmp .Eq (.sub (.var 1) (.lit (.int (0)))) (.lit (.str "const"))) [(.ret (.ite (.cmp .In (.sub (.sub (.var 1) (.lit (.int (1)))) (.lit (.int (0)))) (.glob (.d (.tuple [(.str "int"), (.str "bool")])))) (.sub (.var 1) (.lit (.int (2)))) (.lit .none)))] []),
    (.ret (.methI "at_place" (.var 0) [(.sub (.var 1) (.lit (.int (1))))]))]⟩
theorem at_263 (P : Params) : findN 263 (TT P).funs = some fn_263 := by kernel_rfl
def fn_270 : Fn := ⟨"Facts.forget", [0, 1], [], 2,
    [(.expr (.methB .pop (.attr (.var 0) "known") [(.sub (.var 1) (.lit (.int (0)))), (.lit .none)]))]⟩
theorem at_270 (P : Params) : findN 270 (TT P).funs = some fn_270 := by kernel_rfl
def fn_284 : Fn := ⟨"reckoned_binary", [0, 1, 2, 3], [], 7,
    [(.ite (.cmp .In (.var 0) (.glob (.d (.tuple [(.str "=="), (.str "!="), (.str "<"), (.str "<="), (.str ">"), (.str ">=")])))) [(.ret (.callF 132 [(.var 0), (.var 2), (.var 3)]))] []),
    (.ite (.cmp .Eq (.sub (.var 1) (.lit (.int (0)))) (.lit (.str "bool"))) [(.ret (.methB .get (.dsp false [(.lit (.str "&")), (.lit (.str "|")), (.lit (.str "^"))] [(.bop true [(.var 2), (.var 3)]), (.bop false [(.var 2), (.var 3)]), (.cmp .NotEq (.var 2) (.var 3))]) [(.var 0)]))] []),
    (.ret (.sub (.callF 118 [(.sub (.var 1) (.lit (.int (1)))), (.var 0), (.var 2), (.var 3)]) (.lit (.int (0)))))]⟩
theorem at_284 (P : Params) : findN 284 (TT P).funs = some fn_284 := by kernel_rfl
def fn_298 : Fn := ⟨"Constants.__init__", [0, 1], [], 8,
    [(.asgA (.var 0) "body" (.var 1)),
    (.asg 2 (.callF 235 [(.var 1)])),
    (.asgA (.var 0) "followed" (.dsp true [] [])),
    (.forR 3 (.callB false .len [(.attr (.var 1) "locals")]) [(.ite (.bop true [(.callF 228 [(.sub (.sub (.attr (.var 1) "locals") (.var 3)) (.lit (.int (0))))]), (.cmp .NotIn (.var 3) (.var 2))]) [(.asgS (.attr (.var 0) "followed") (.var 3) (.lit (.bool true)))] [])]),
    (.asgA (.var 0) "begins" (.dsp true [(.lit (.int (0)))] [(.dsp false [] [])]))]⟩
theorem at_298 (P : Params) : findN 298 (TT P).funs = some fn_298 := by kernel_rfl
def fn_305 : Fn := ⟨"Constants.type_of", [0, 1], [], 6,
    [(.ite (.cmp .Eq (.sub (.var 1) (.lit (.int (0)))) (.lit (.str "const"))) [(.ret (.sub (.var 1) (.lit (.int (1)))))] []),
    (.unp false [2, 3] (.sub (.var 1) (.lit (.int (1))))),
    (.asg 4 (.sub (.sub (.attr (.attr (.var 0) "body") "locals") (.var 2)) (.lit (.int (0))))),
    (.for_ (.one 5) (.var 3) [(.ite (.bop false [(.cmp .NotEq (.sub (.var 5) (.lit (.int (0)))) (.lit (.str "field"))), (.cmp .NotEq (.sub (.var 4) (.lit (.int (0)))) (.lit (.str "tuple")))]) [(.ret (.lit .none))] []),
    (.asg 4 (.sub (.sub (.var 4) (.lit (.int (1)))) (.sub (.var 5) (.lit (.int (1))))))]),
    (.ret (.var 4))]⟩
theorem at_305 (P : Params) : findN 305 (TT P).funs = some fn_305 := by kernel_rfl
def fn_310 : Fn := ⟨"Constants.value_of", [0, 1, 2], [], 6,
    [(.asg 3 (.sub (.var 1) (.lit (.int (0))))),
    (.ite (.cmp .Eq (.var 3) (.lit (.str "use"))) [(.ret (.methI "at_operand" (.var 2) [(.sub (.var 1) (.lit (.int (1))))]))] []),
    (.ite (.cmp .Eq (.var 3) (.lit (.str "tuple"))) [(.asg 4 (.comp false (.methI "at_operand" (.var 2) [(.var 1)]) (.one 1) (.sub (.var 1) (.lit (.int (1)))) [] [none, none, some 2])),
    (.ret (.ite (.cmp .In (.lit .none) (.var 4)) (.lit .none) (.callB false .tuple [(.var 4)])))] []),
    (.ite (.cmp .In (.var 3) (.tup [(.lit (.str "binary")), (.lit (.str "checked"))])) [(.ret (.methI "of_two" (.var 0) [(.var 1), (.var 2)]))] []),
    (.ite (.cmp .Eq (.var 3) (.lit (.str "unary"))) [(.ret (.methI "of_one" (.var 0) [(.var 1), (.var 2)]))] []),
    (.ite (.cmp .Eq (.var 3) (.lit (.str "cast"))) [(.ret (.methI "of_cast" (.var 0) [(.var 1), (.var 2)]))] []),
    (.ret (.lit .none))]⟩
theorem at_310 (P : Params) : findN 310 (TT P).funs = some fn_310 := by kernel_rfl
def fn_317 : Fn := ⟨"Constants.of_two", [0, 1, 2], [], 14,
    [(.unp false [3, 4, 5, 6] (.var 1)),
    (.unp true [7, 8, 9] (.tup [(.methI "at_operand" (.var 2) [(.var 5)]), (.methI "at_operand" (.var 2) [(.var 6)]), (.methI "type_of" (.var 0) [(.var 5)])])),
    (.ite (.bop false [(.cmp .Is (.var 7) (.lit .none)), (.cmp .Is (.var 8) (.lit .none)), (.cmp .Is (.var 9) (.lit .none)), (.cmp .NotIn (.sub (.var 9) (.lit (.int (0)))) (.glob (.d (.tuple [(.str "int"), (.str "bool")]))))]) [(.ret (.lit .none))] []),
    (.ite (.cmp .Eq (.var 3) (.lit (.str "binary"))) [(.ret (.callF 284 [(.var 4), (.var 9), (.var 7), (.var 8)]))] []),
    (.asg 10 (.callF 118 [(.sub (.var 9) (.lit (.int (1)))), (.var 4), (.var 7), (.var 8)])),
    (.ret (.ite (.cmp .Is (.sub (.var 10) (.lit (.int (0)))) (.lit .none)) (.lit .none) (.var 10)))]⟩
theorem at_317 (P : Params) : findN 317 (TT P).funs = some fn_317 := by kernel_rfl
def fn_324 : Fn := ⟨"Constants.of_one", [0, 1, 2], [], 6,
    [(.unp true [3, 4] (.tup [(.methI "at_operand" (.var 2) [(.sub (.var 1) (.lit (.int (2))))]), (.methI "type_of" (.var 0) [(.sub (.var 1) (.lit (.int (2))))])])),
    (.ite (.bop false [(.cmp .Is (.var 3) (.lit .none)), (.cmp .Is (.var 4) (.lit .none))]) [(.ret (.lit .none))] []),
    (.ite (.cmp .Eq (.sub (.var 1) (.lit (.int (1)))) (.lit (.str "!"))) [(.ret (.ite (.cmp .Eq (.sub (.var 4) (.lit (.int (0)))) (.lit (.str "bool"))) (.not (.var 3)) (.callF 90 [(.sub (.var 4) (.lit (.int (1)))), (.bin .Sub (.neg (.lit (.int (1)))) (.var 3))])))] []),
    (.ret (.callF 90 [(.sub (.var 4) (.lit (.int (1)))), (.bin .Sub (.lit (.int (0))) (.var 3))]))]⟩
theorem at_324 (P : Params) : findN 324 (TT P).funs = some fn_324 := by kernel_rfl
def fn_331 : Fn := ⟨"Constants.of_cast", [0, 1, 2], [], 6,
    [(.asg 3 (.methI "at_operand" (.var 2) [(.sub (.var 1) (.lit (.int (1))))])),
    (.ite (.bop false [(.cmp .Is (.var 3) (.lit .none)), (.cmp .NotEq (.sub (.sub (.var 1) (.lit (.int (2)))) (.lit (.int (0)))) (.lit (.str "int")))]) [(.ret (.lit .none))] []),
    (.ret (.callF 97 [(.sub (.sub (.var 1) (.lit (.int (2)))) (.lit (.int (1)))), (.callB false .int [(.var 3)])]))]⟩
theorem at_331 (P : Params) : findN 331 (TT P).funs = some fn_331 := by kernel_rfl
def fn_338 : Fn := ⟨"Constants.step", [0, 1, 2], [], 6,
    [(.ite (.cmp .Eq (.sub (.var 1) (.lit (.int (0)))) (.lit (.str "assign"))) [(.unp true [3, 4] (.tup [(.sub (.var 1) (.lit (.int (1)))), (.sub (.var 1) (.lit (.int (2))))])),
    (.asg 5 (.methI "value_of" (.var 0) [(.var 4), (.var 2)])),
    (.expr (.methI "forget" (.var 2) [(.var 3)])),
    (.ite (.bop true [(.cmp .IsNot (.var 5) (.lit .none)), (.cmp .Eq (.sub (.var 3) (.lit (.int (1)))) (.tup [])), (.cmp .In (.sub (.var 3) (.lit (.int (0)))) (.attr (.var 0) "followed"))]) [(.asgS (.attr (.var 2) "known") (.sub (.var 3) (.lit (.int (0)))) (.var 5))] [])] [(.ite (.cmp .In (.sub (.var 1) (.lit (.int (0)))) (.tup [(.lit (.str "live")), (.lit (.str "dead"))])) [(.expr (.methI "forget" (.var 2) [(.tup [(.sub (.var 1) (.lit (.int (1)))), (.tup [])])]))] [])])]⟩
theorem at_338 (P : Params) : findN 338 (TT P).funs = some fn_338 := by kernel_rfl
def fn_345 : Fn := ⟨"Constants.behind", [0, 1], [], 7,
    [(.asg 2 (.callC 273 [(.sub (.attr (.var 0) "begins") (.var 1))])),
    (.unp false [3, 4] (.sub (.attr (.attr (.var 0) "body") "blocks") (.var 1))),
    (.for_ (.one 5) (.var 3) [(.expr (.methI "step" (.var 0) [(.var 5), (.var 2)]))]),
    (.ret (.var 2))]⟩
theorem at_345 (P : Params) : findN 345 (TT P).funs = some fn_345 := by kernel_rfl
def fn_350 : Fn := ⟨"Constants.gone_on", [0, 1, 2], [], 6,
    [(.asg 3 (.sub (.sub (.attr (.attr (.var 0) "body") "blocks") (.var 1)) (.lit (.int (1))))),
    (.ite (.cmp .Eq (.sub (.var 3) (.lit (.int (0)))) (.lit (.str "call"))) [(.expr (.methI "forget" (.var 2) [(.sub (.var 3) (.lit (.int (3))))]))] []),
    (.ite (.cmp .Eq (.sub (.var 3) (.lit (.int (0)))) (.lit (.str "drop"))) [(.expr (.methI "forget" (.var 2) [(.sub (.var 3) (.lit (.int (1))))]))] []),
    (.asg 4 (.methI "known_target" (.var 0) [(.var 3), (.var 2)])),
    (.ite (.cmp .IsNot (.var 4) (.lit .none)) [(.ret (.lst false [(.tup [(.var 4), (.attr (.var 2) "known")])]))] []),
    (.ret (.comp false (.tup [(.var 1), (.attr (.var 2) "known")]) (.one 1) (.callF 202 [(.var 3)]) [] [none, none, some 2]))]⟩
theorem at_350 (P : Params) : findN 350 (TT P).funs = some fn_350 := by kernel_rfl
def fn_357 : Fn := ⟨"Constants.known_target", [0, 1, 2], [], 6,
    [(.ite (.cmp .Eq (.sub (.var 1) (.lit (.int (0)))) (.lit (.str "switch"))) [(.asg 3 (.methI "at_operand" (.var 2) [(.sub (.var 1) (.lit (.int (1))))])),
    (.ite (.cmp .Is (.var 3) (.lit .none)) [(.ret (.lit .none))] []),
    (.for_ (.many [4, 5]) (.sub (.var 1) (.lit (.int (2)))) [(.ite (.cmp .Eq (.var 4) (.var 3)) [(.ret (.var 5))] [])]),
    (.ret (.sub (.var 1) (.lit (.int (3)))))] []),
    (.ite (.bop true [(.cmp .Eq (.sub (.var 1) (.lit (.int (0)))) (.lit (.str "assert"))), (.cmp .Eq (.methI "at_operand" (.var 2) [(.sub (.var 1) (.lit (.int (1))))]) (.sub (.var 1) (.lit (.int (2)))))]) [(.ret (.sub (.var 1) (.neg (.lit (.int (1))))))] []),
    (.ret (.lit .none))]⟩
theorem at_357 (P : Params) : findN 357 (TT P).funs = some fn_357 := by kernel_rfl
def fn_362 : Fn := ⟨"Constants.meet", [0, 1, 2], [], 7,
    [(.ite (.cmp .NotIn (.var 1) (.attr (.var 0) "begins")) [(.asgS (.attr (.var 0) "begins") (.var 1) (.callB false .dict [(.var 2)])),
    (.ret (.lit (.bool true)))] []),
    (.asg 3 (.sub (.attr (.var 0) "begins") (.var 1))),
    (.asg 4 (.dcomp (.var 1) (.sub (.var 2) (.var 1)) 1 (.var 3) [(.bop true [(.cmp .In (.var 1) (.var 3)), (.cmp .Eq (.sub (.var 3) (.var 1)) (.sub (.var 2) (.var 1)))])] [none, none, some 3, some 2])),
    (.asgS (.attr (.var 0) "begins") (.var 1) (.var 4)),
    (.ret (.cmp .Lt (.callB false .len [(.var 4)]) (.callB false .len [(.var 3)])))]⟩
theorem at_362 (P : Params) : findN 362 (TT P).funs = some fn_362 := by kernel_rfl
def fn_369 : Fn := ⟨"Constants.follow", [0], [], 5,
    [(.asg 1 (.lst true [(.lit (.int (0)))])),
    (.while_ (.cmp .NotEq (.var 1) (.lst false [])) [(.asg 2 (.methB .pop (.var 1) [])),
    (.for_ (.many [3, 4]) (.methI "gone_on" (.var 0) [(.var 2), (.methI "behind" (.var 0) [(.var 2)])]) [(.ite (.methI "meet" (.var 0) [(.var 3), (.var 4)]) [(.expr (.methB .append (.var 1) [(.var 3)]))] [])])])]⟩
theorem at_369 (P : Params) : findN 369 (TT P).funs = some fn_369 := by kernel_rfl
def fn_376 : Fn := ⟨"Constants.put", [0, 1, 2], [], 6,
    [(.ite (.cmp .Eq (.sub (.var 1) (.lit (.int (0)))) (.lit (.str "const"))) [(.ret (.var 1))] []),
    (.unp true [3, 4] (.tup [(.methI "at_operand" (.var 2) [(.var 1)]), (.methI "type_of" (.var 0) [(.var 1)])])),
    (.ret (.ite (.bop false [(.cmp .Is (.var 3) (.lit .none)), (.cmp .Is (.var 4) (.lit .none)), (.cmp .NotIn (.sub (.var 4) (.lit (.int (0)))) (.glob (.d (.tuple [(.str "int"), (.str "bool")]))))]) (.var 1) (.tup [(.lit (.str "const")), (.var 4), (.var 3)])))]⟩
theorem at_376 (P : Params) : findN 376 (TT P).funs = some fn_376 := by kernel_rfl
def fn_381 : Fn := ⟨"Constants.put_rvalue", [0, 1, 2, 3], [], 9,
    [(.asg 4 (.methI "value_of" (.var 0) [(.var 1), (.var 3)])),
    (.asg 5 (.methI "type_of" (.var 0) [(.tup [(.lit (.str "copy")), (.var 2)])])),
    (.ite (.bop true [(.cmp .IsNot (.var 4) (.lit .none)), (.cmp .IsNot (.var 5) (.lit .none)), (.cmp .In (.sub (.var 5) (.lit (.int (0)))) (.glob (.d (.tuple [(.str "int"), (.str "bool")]))))]) [(.ret (.tup [(.lit (.str "use")), (.tup [(.lit (.str "const")), (.var 5), (.var 4)])]))] []),
    (.ret (.callF 221 [(.var 1), (.comp false (.methI "put" (.var 3) [(.var 1), (.var 2)]) (.one 1) (.callF 214 [(.var 1)]) [] [none, none, some 3, some 0])]))]⟩
theorem at_381 (P : Params) : findN 381 (TT P).funs = some fn_381 := by kernel_rfl
def fn_388 : Fn := ⟨"Constants.put_statement", [0, 1, 2], [], 3,
    [(.ite (.cmp .Eq (.sub (.var 1) (.lit (.int (0)))) (.lit (.str "assign"))) [(.ret (.tup [(.lit (.str "assign")), (.sub (.var 1) (.lit (.int (1)))), (.methI "put_rvalue" (.var 0) [(.sub (.var 1) (.lit (.int (2)))), (.sub (.var 1) (.lit (.int (1)))), (.var 2)])]))] []),
    (.ite (.cmp .Eq (.sub (.var 1) (.lit (.int (0)))) (.lit (.str "print"))) [(.ret (.tup [(.lit (.str "print")), (.methI "put" (.var 0) [(.sub (.var 1) (.lit (.int (1)))), (.var 2)])]))] []),
    (.ret (.var 1))]⟩
theorem at_388 (P : Params) : findN 388 (TT P).funs = some fn_388 := by kernel_rfl
def fn_393 : Fn := ⟨"Constants.put_terminator", [0, 1, 2], [], 6,
    [(.asg 3 (.methI "known_target" (.var 0) [(.var 1), (.var 2)])),
    (.ite (.cmp .IsNot (.var 3) (.lit .none)) [(.ret (.tup [(.lit (.str "goto")), (.var 3)]))] []),
    (.ite (.cmp .In (.sub (.var 1) (.lit (.int (0)))) (.tup [(.lit (.str "switch")), (.lit (.str "assert"))])) [(.ret (.bin .Add (.tup [(.sub (.var 1) (.lit (.int (0)))), (.methI "put" (.var 0) [(.sub (.var 1) (.lit (.int (1)))), (.var 2)])]) (.callB false .tuple [(.slc (.var 1) (some (.lit (.int (2)))) none)])))] []),
    (.ite (.cmp .Eq (.sub (.var 1) (.lit (.int (0)))) (.lit (.str "call"))) [(.asg 4 (.callB false .tuple [(.comp false (.methI "put" (.var 3) [(.var 1), (.var 2)]) (.one 1) (.sub (.var 1) (.lit (.int (2)))) [] [none, none, some 2, some 0])])),
    (.ret (.bin .Add (.tup [(.sub (.var 1) (.lit (.int (0)))), (.sub (.var 1) (.lit (.int (1)))), (.var 4)]) (.callB false .tuple [(.slc (.var 1) (some (.lit (.int (3)))) none)])))] []),
    (.ret (.var 1))]⟩
theorem at_393 (P : Params) : findN 393 (TT P).funs = some fn_393 := by kernel_rfl
def fn_407 : Fn := ⟨"with_constants", [0], [], 13,
    [(.asg 1 (.callC 396 [(.var 0)])),
    (.expr (.methI "follow" (.var 1) [])),
    (.asg 2 (.callF 207 [(.var 0)])),
    (.for_ (.one 3) (.callB false .sorted [(.attr (.var 1) "begins")]) [(.asg 4 (.callC 273 [(.sub (.attr (.var 1) "begins") (.var 3))])),
    (.unp false [5, 6] (.sub (.attr (.var 0) "blocks") (.var 3))),
    (.asg 7 (.lst true [])),
    (.for_ (.one 8) (.var 5) [(.expr (.methB .append (.var 7) [(.methI "put_statement" (.var 1) [(.var 8), (.var 4)])])),
    (.expr (.methI "step" (.var 1) [(.var 8), (.var 4)]))]),
    (.asgSM (.attr (.var 2) "blocks") (.var 3) 7 (.methI "put_terminator" (.var 1) [(.var 6), (.var 4)]))]),
    (.ret (.var 2))]⟩
theorem at_407 (P : Params) : findN 407 (TT P).funs = some fn_407 := by kernel_rfl
def fn_414 : Fn := ⟨"_law_wide", [], [], 0,
    [(.ret (.dsp false [(.lit (.str "u8")), (.lit (.str "i8")), (.lit (.str "i32")), (.lit (.str "u64"))] [(.tup [(.lit (.int (0))), (.lit (.int (8)))]), (.tup [(.neg (.lit (.int (128)))), (.lit (.int (8)))]), (.tup [(.neg (.bin .Pow (.lit (.int (2))) (.lit (.int (31))))), (.lit (.int (32)))]), (.tup [(.lit (.int (0))), (.lit (.int (64)))])]))]⟩
theorem at_414 (P : Params) : findN 414 (TT P).funs = some fn_414 := by kernel_rfl
def fn_421 : Fn := ⟨"_law_pool", [0, 1], [], 7,
    [(.asg 2 (.ite (.cmp .NotEq (.var 0) (.lst false [])) (.sub (.var 0) (.lit (.int (0)))) (.lit (.int (0))))),
    (.asg 3 (.callB false .max [(.var 2), (.bin .Sub (.neg (.lit (.int (1)))) (.var 2))])),
    (.asg 4 (.bin .Mod (.bin .Mult (.bin .Add (.bin .Mod (.var 3) (.lit (.int (2147483629)))) (.lit (.int (17)))) (.lit (.int (48271)))) (.lit (.int (2147483647))))),
    (.ret (.lst true [(.bin .Mult (.var 3) (.callB false .int [(.cmp .GtE (.var 3) (.bin .Pow (.lit (.int (10))) (.lit (.int (18)))))])), (.var 4), (.ite (.cmp .Eq (.var 0) (.lst false [])) (.var 1) (.lst false []))]))]⟩
theorem at_421 (P : Params) : findN 421 (TT P).funs = some fn_421 := by kernel_rfl
def fn_428 : Fn := ⟨"_law_take", [0, 1], [], 3,
    [(.ite (.cmp .NotEq (.sub (.var 0) (.lit (.int (2)))) (.lst false [])) [(.ret (.bin .Mod (.methB .pop (.sub (.var 0) (.lit (.int (2)))) [(.lit (.int (0)))]) (.var 1)))] []),
    (.ite (.cmp .Gt (.sub (.var 0) (.lit (.int (0)))) (.lit (.int (0)))) [(.asg 2 (.bin .Mod (.sub (.var 0) (.lit (.int (0)))) (.var 1))),
    (.asgS (.var 0) (.lit (.int (0))) (.bin .FloorDiv (.sub (.var 0) (.lit (.int (0)))) (.var 1))),
    (.ret (.var 2))] []),
    (.asgS (.var 0) (.lit (.int (1))) (.bin .Mod (.bin .Add (.bin .Mult (.sub (.var 0) (.lit (.int (1)))) (.lit (.int (39373)))) (.lit (.int (7)))) (.lit (.int (2147483647))))),
    (.ret (.bin .Mod (.bin .FloorDiv (.bin .Mod (.bin .Mult (.sub (.var 0) (.lit (.int (1)))) (.sub (.var 0) (.lit (.int (1))))) (.lit (.int (2147483629)))) (.lit (.int (32)))) (.var 1)))]⟩
theorem at_428 (P : Params) : findN 428 (TT P).funs = some fn_428 := by kernel_rfl
def fn_435 : Fn := ⟨"_law_one", [0, 1], [], 4,
    [(.ret (.sub (.var 1) (.callF 428 [(.var 0), (.callB false .len [(.var 1)])])))]⟩
theorem at_435 (P : Params) : findN 435 (TT P).funs = some fn_435 := by kernel_rfl
def fn_442 : Fn := ⟨"_law_exact", [0, 1, 2, 3], [], 8,
    [(.ite (.cmp .In (.var 1) (.lst false [(.lit (.str "/")), (.lit (.str "%"))])) [(.ite (.cmp .Eq (.var 3) (.lit (.int (0)))) [(.ret (.lit .none))] []),
    (.asg 4 (.bin .Mult (.bin .FloorDiv (.callB false .abs [(.var 2)]) (.callB false .abs [(.var 3)])) (.ite (.cmp .Eq (.cmp .Lt (.var 2) (.lit (.int (0)))) (.cmp .Lt (.var 3) (.lit (.int (0))))) (.lit (.int (1))) (.neg (.lit (.int (1))))))),
    (.ret (.ite (.cmp .Eq (.var 1) (.lit (.str "/"))) (.var 4) (.bin .Sub (.var 2) (.bin .Mult (.var 3) (.var 4)))))] []),
    (.asg 5 (.bin .Pow (.lit (.int (2))) (.bin .Mod (.var 3) (.sub (.sub (.callF 414 []) (.var 0)) (.lit (.int (1))))))),
    (.ret (.sub (.dsp false [(.lit (.str "+")), (.lit (.str "-")), (.lit (.str "*")), (.lit (.str "<<")), (.lit (.str ">>"))] [(.bin .Add (.var 2) (.var 3)), (.bin .Sub (.var 2) (.var 3)), (.bin .Mult (.var 2) (.var 3)), (.bin .Mult (.var 2) (.var 5)), (.bin .FloorDiv (.var 2) (.var 5))]) (.var 1)))]⟩
theorem at_442 (P : Params) : findN 442 (TT P).funs = some fn_442 := by kernel_rfl
def fn_449 : Fn := ⟨"_law_wrapped", [0, 1], [], 5,
    [(.unp false [2, 3] (.sub (.callF 414 []) (.var 0))),
    (.ret (.bin .Add (.bin .Mod (.bin .Sub (.var 1) (.var 2)) (.bin .Pow (.lit (.int (2))) (.var 3))) (.var 2)))]⟩
theorem at_449 (P : Params) : findN 449 (TT P).funs = some fn_449 := by kernel_rfl
def fn_456 : Fn := ⟨"_law_over", [0, 1, 2, 3, 4], [], 9,
    [(.unp false [5, 6] (.sub (.callF 414 []) (.var 0))),
    (.ite (.cmp .In (.var 1) (.lst false [(.lit (.str "<<")), (.lit (.str ">>"))])) [(.ret (.not (.cmp2 .LtE .Lt (.lit (.int (0))) (.var 3) (.var 6))))] []),
    (.ite (.bop true [(.cmp .Eq (.var 1) (.lit (.str "%"))), (.cmp .Lt (.var 5) (.lit (.int (0)))), (.cmp .Eq (.var 3) (.neg (.lit (.int (1)))))]) [(.ret (.cmp .Eq (.var 2) (.var 5)))] []),
    (.ret (.cmp .NotEq (.var 4) (.callF 449 [(.var 0), (.var 4)])))]⟩
theorem at_456 (P : Params) : findN 456 (TT P).funs = some fn_456 := by kernel_rfl
def fn_463 : Fn := ⟨"_law_value", [0, 1], [], 6,
    [(.unp false [2, 3] (.sub (.callF 414 []) (.var 1))),
    (.ret (.callF 435 [(.var 0), (.lst false [(.var 2), (.bin .Sub (.bin .Add (.var 2) (.bin .Pow (.lit (.int (2))) (.var 3))) (.lit (.int (1)))), (.lit (.int (0))), (.lit (.int (1))), (.lit (.int (2))), (.lit (.int (3))), (.lit (.int (7))), (.ite (.cmp .Lt (.var 2) (.lit (.int (0)))) (.neg (.lit (.int (1)))) (.lit (.int (5)))), (.bin .Add (.var 2) (.lit (.int (1)))), (.lit (.int (100)))])]))]⟩
theorem at_463 (P : Params) : findN 463 (TT P).funs = some fn_463 := by kernel_rfl
def fn_468 : Fn := ⟨"_law_row_right", [0], [], 36,
    [(.asg 1 (.callF 435 [(.var 0), (.lst false [(.lit (.str "u8")), (.lit (.str "i8")), (.lit (.str "i32")), (.lit (.str "u64"))])])),
    (.unp true [2, 3, 4] (.tup [(.tup [(.lit (.str "int")), (.var 1)]), (.tup [(.lit (.str "bool"))]), (.tup [(.lit (.str "int")), (.lit (.str "i32"))])])),
    (.asg 5 (.callC 193 [(.lit (.str "f")), (.lit (.int (0))), (.comp false (.tup [(.var 1), (.lit (.bool true)), (.lit .none)]) (.one 1) (.lst false [(.var 2), (.var 2), (.tup [(.lit (.str "tuple")), (.tup [(.var 2), (.var 3)])]), (.var 3), (.var 4)]) [] [none, none])])),
    (.unp true [6, 7] (.tup [(.tup [(.lit (.str "copy")), (.tup [(.lit (.int (1))), (.tup [])])]), (.callF 463 [(.var 0), (.var 1)])])),
    (.unp true [8, 9] (.tup [(.lst false [(.tup [(.lit (.str "assign")), (.tup [(.lit (.int (1))), (.tup [])]), (.tup [(.lit (.str "use")), (.tup [(.lit (.str "const")), (.var 2), (.var 7)])])])]), (.lst true [])])),
    (.asg 10 (.callB false .list [(.var 8)])),
    (.forR 11 (.bin .Add (.lit (.int (1))) (.callF 428 [(.var 0), (.lit (.int (6)))])) [(.unp true [12, 13] (.tup [(.callF 435 [(.var 0), (.lst false [(.lit (.str "+")), (.lit (.str "-")), (.lit (.str "*")), (.lit (.str "/")), (.lit (.str "%")), (.lit (.str "<<")), (.lit (.str ">>"))])]), (.callF 463 [(.var 0), (.var 1)])])),
    (.asg 14 (.tup [(.lit (.str "const")), (.var 2), (.var 13)])),
    (.asg 8 (.bin .Add (.var 8) (.lst false [(.tup [(.lit (.str "assign")), (.tup [(.lit (.int (3))), (.tup [])]), (.tup [(.lit (.str "binary")), (.lit (.str "==")), (.var 14), (.tup [(.lit (.str "const")), (.var 2), (.lit (.int (0)))])])])]))),
    (.asg 15 (.bop true [(.cmp .In (.var 12) (.lst false [(.lit (.str "/")), (.lit (.str "%"))])), (.cmp .Eq (.var 13) (.lit (.int (0))))])),
    (.expr (.methB .append (.attr (.var 5) "blocks") [(.lst false [(.var 8), (.tup [(.lit (.str "assert")), (.tup [(.lit (.str "copy")), (.tup [(.lit (.int (3))), (.tup [])])]), (.lit (.bool false)), (.lit (.str "none")), (.bin .Add (.callB false .len [(.attr (.var 5) "blocks")]) (.lit (.int (1))))])])])),
    (.asg 10 (.bin .Add (.var 10) (.lst false [(.tup [(.lit (.str "assign")), (.tup [(.lit (.int (3))), (.tup [])]), (.tup [(.lit (.str "use")), (.tup [(.lit (.str "const")), (.var 3), (.cmp .Eq (.var 13) (.lit (.int (0))))])])])]))),
    (.asg 16 (.callB false .len [(.attr (.var 5) "blocks")])),
    (.asg 17 (.ite (.cmp .NotEq (.var 13) (.lit (.int (0)))) (.tup [(.lit (.str "goto")), (.var 16)]) (.tup [(.lit (.str "assert")), (.tup [(.lit (.str "const")), (.var 3), (.lit (.bool true))]), (.lit (.bool false)), (.lit (.str "none")), (.var 16)]))),
    (.expr (.methB .append (.var 9) [(.lst false [(.var 10), (.var 17)])])),
    (.asg 18 (.callF 442 [(.var 1), (.var 12), (.var 7), (.var 13)])),
    (.asg 19 (.tup [(.lit (.str "assign")), (.tup [(.lit (.int (2))), (.tup [])]), (.tup [(.lit (.str "checked")), (.var 12), (.var 6), (.var 14)])])),
    (.expr (.methB .append (.attr (.var 5) "blocks") [(.lst false [(.lst false [(.var 19)]), (.tup [(.lit (.str "assert")), (.tup [(.lit (.str "copy")), (.tup [(.lit (.int (2))), (.tup [(.tup [(.lit (.str "field")), (.lit (.int (1)))])])])]), (.lit (.bool false)), (.lit (.str "over")), (.bin .Add (.var 16) (.lit (.int (1))))])])])),
    (.asg 20 (.tup [(.lit (.str "assign")), (.tup [(.lit (.int (2))), (.tup [])]), (.tup [(.lit (.str "checked")), (.var 12), (.tup [(.lit (.str "const")), (.var 2), (.var 7)]), (.var 14)])])),
    (.ite (.var 15) [(.ret (.callF 482 [(.var 5), (.bin .Add (.var 9) (.lst false [(.lst false [(.lst false [(.var 20)]), (.sub (.sub (.attr (.var 5) "blocks") (.neg (.lit (.int (1))))) (.lit (.int (1))))])])), (.var 7)]))] []),
    (.asg 21 (.callF 456 [(.var 1), (.var 12), (.var 7), (.var 13), (.var 18)])),
    (.asg 17 (.ite (.var 21) (.tup [(.lit (.str "assert")), (.tup [(.lit (.str "const")), (.var 3), (.lit (.bool true))]), (.lit (.bool false)), (.lit (.str "over")), (.bin .Add (.var 16) (.lit (.int (1))))]) (.tup [(.lit (.str "goto")), (.bin .Add (.var 16) (.lit (.int (1))))]))),
    (.expr (.methB .append (.var 9) [(.lst false [(.lst false [(.var 20)]), (.var 17)])])),
    (.asg 7 (.callF 449 [(.var 1), (.var 18)])),
    (.asg 8 (.lst false [(.tup [(.lit (.str "assign")), (.tup [(.lit (.int (1))), (.tup [])]), (.tup [(.lit (.str "use")), (.tup [(.lit (.str "move")), (.tup [(.lit (.int (2))), (.tup [(.tup [(.lit (.str "field")), (.lit (.int (0)))])])])])])]), (.tup [(.lit (.str "print")), (.var 6)])])),
    (.asg 10 (.lst false [(.tup [(.lit (.str "assign")), (.tup [(.lit (.int (1))), (.tup [])]), (.tup [(.lit (.str "use")), (.tup [(.lit (.str "const")), (.var 2), (.var 7)])])]), (.tup [(.lit (.str "print")), (.tup [(.lit (.str "const")), (.var 2), (.var 7)])])])),
    (.unp false [22, 23] (.callF 475 [(.var 0), (.var 1), (.var 7)])),
    (.unp true [8, 10] (.tup [(.bin .Add (.var 8) (.var 22)), (.bin .Add (.var 10) (.var 23))]))]),
    (.ret (.callF 482 [(.var 5), (.bin .Add (.var 9) (.lst false [(.lst false [(.var 10), (.tup [(.lit (.str "return"))])])])), (.lit .none), (.var 8)]))]⟩
theorem at_468 (P : Params) : findN 468 (TT P).funs = some fn_468 := by kernel_rfl
def fn_475 : Fn := ⟨"_law_more", [0, 1, 2], [], 17,
    [(.unp false [3, 4, 5, 6] (.tup [(.tup [(.lit (.str "int")), (.var 1)]), (.tup [(.lit (.str "bool"))]), (.tup [(.lit (.str "int")), (.lit (.str "i32"))]), (.tup [(.lit (.str "copy")), (.tup [(.lit (.int (1))), (.tup [])])])])),
    (.asg 7 (.callF 428 [(.var 0), (.lit (.int (4)))])),
    (.ite (.cmp .Eq (.var 7) (.lit (.int (0)))) [(.asg 8 (.callF 449 [(.lit (.str "i32")), (.var 2)])),
    (.ret (.tup [(.lst false [(.tup [(.lit (.str "assign")), (.tup [(.lit (.int (4))), (.tup [])]), (.tup [(.lit (.str "cast")), (.var 6), (.var 5)])])]), (.lst false [(.tup [(.lit (.str "assign")), (.tup [(.lit (.int (4))), (.tup [])]), (.tup [(.lit (.str "use")), (.tup [(.lit (.str "const")), (.var 5), (.var 8)])])])])]))] []),
    (.ite (.cmp .Eq (.var 7) (.lit (.int (1)))) [(.unp true [9, 10] (.tup [(.callF 435 [(.var 0), (.lst false [(.lit (.str "!")), (.lit (.str "-"))])]), (.callF 449 [(.var 1), (.bin .Sub (.neg (.lit (.int (1)))) (.var 2))])])),
    (.asg 11 (.ite (.cmp .Eq (.var 9) (.lit (.str "!"))) (.var 10) (.callF 449 [(.var 1), (.neg (.var 2))]))),
    (.ret (.tup [(.lst false [(.tup [(.lit (.str "assign")), (.tup [(.lit (.int (0))), (.tup [])]), (.tup [(.lit (.str "unary")), (.var 9), (.var 6)])])]), (.lst false [(.tup [(.lit (.str "assign")), (.tup [(.lit (.int (0))), (.tup [])]), (.tup [(.lit (.str "use")), (.tup [(.lit (.str "const")), (.var 3), (.var 11)])])])])]))] []),
    (.ite (.cmp .Eq (.var 7) (.lit (.int (2)))) [(.asg 12 (.callF 435 [(.var 0), (.lst false [(.lit (.str "<")), (.lit (.str "<=")), (.lit (.str ">")), (.lit (.str ">=")), (.lit (.str "!="))])])),
    (.asg 11 (.sub (.dsp false [(.lit (.str "<")), (.lit (.str "<=")), (.lit (.str ">")), (.lit (.str ">=")), (.lit (.str "!="))] [(.cmp .Lt (.var 2) (.lit (.int (3)))), (.cmp .LtE (.var 2) (.lit (.int (3)))), (.cmp .Gt (.var 2) (.lit (.int (3)))), (.cmp .GtE (.var 2) (.lit (.int (3)))), (.cmp .NotEq (.var 2) (.lit (.int (3))))]) (.var 12))),
    (.asg 13 (.tup [(.lit (.str "assign")), (.tup [(.lit (.int (3))), (.tup [])]), (.tup [(.lit (.str "binary")), (.var 12), (.var 6), (.tup [(.lit (.str "const")), (.var 3), (.lit (.int (3)))])])])),
    (.ret (.tup [(.lst false [(.var 13)]), (.lst false [(.tup [(.lit (.str "assign")), (.tup [(.lit (.int (3))), (.tup [])]), (.tup [(.lit (.str "use")), (.tup [(.lit (.str "const")), (.var 4), (.var 11)])])])])]))] []),
    (.ret (.tup [(.lst false []), (.lst false [])]))]⟩
theorem at_475 (P : Params) : findN 475 (TT P).funs = some fn_475 := by kernel_rfl
def fn_482 : Fn := ⟨"_law_told", [0, 1, 2, 3], [(.d (.tuple []))], 9,
    [(.asg 4 (.callB false .len [(.attr (.var 0) "blocks")])),
    (.expr (.methB .append (.attr (.var 0) "blocks") [(.lst false [(.callB false .list [(.var 3)]), (.tup [(.lit (.str "return"))])])])),
    (.asg 5 (.attr (.callF 407 [(.var 0)]) "blocks")),
    (.ite (.cmp .NotEq (.comp false (.lst false [(.callB false .list [(.var 1)]), (.var 2)]) (.many [1, 2]) (.slc (.var 5) none (some (.callB false .len [(.var 1)]))) [] [none, none, none, none]) (.var 1)) [(.ret (.lit (.bool false)))] []),
    (.ret (.bop false [(.cmp .Is (.var 2) (.lit .none)), (.cmp .Eq (.sub (.sub (.var 5) (.var 4)) (.lit (.int (0)))) (.callB false .list [(.var 3)]))]))]⟩
theorem at_482 (P : Params) : findN 482 (TT P).funs = some fn_482 := by kernel_rfl
def fn_487 : Fn := ⟨"_law_round_right", [], [], 12,
    [(.unp false [0, 1] (.tup [(.tup [(.lit (.str "int")), (.lit (.str "u8"))]), (.tup [(.lit (.str "bool"))])])),
    (.asg 2 (.callC 193 [(.lit (.str "g")), (.lit (.int (2))), (.bin .Add (.bin .Mult (.lst false [(.tup [(.var 0), (.lit (.bool true)), (.lit .none)])]) (.lit (.int (5)))) (.lst false [(.tup [(.var 1), (.lit (.bool true)), (.lit .none)])]))])),
    (.unp false [3, 4] (.tup [(.tup [(.lit (.str "copy")), (.tup [(.lit (.int (3))), (.tup [])])]), (.tup [(.lit (.str "copy")), (.tup [(.lit (.int (4))), (.tup [])])])])),
    (.asg 5 (.lst false [(.tup [(.lit (.str "assign")), (.tup [(.lit (.int (3))), (.tup [])]), (.tup [(.lit (.str "use")), (.tup [(.lit (.str "const")), (.var 0), (.lit (.int (0)))])])]), (.tup [(.lit (.str "assign")), (.tup [(.lit (.int (4))), (.tup [])]), (.tup [(.lit (.str "use")), (.tup [(.lit (.str "const")), (.var 0), (.lit (.int (2)))])])])])),
    (.expr (.methB .append (.attr (.var 2) "blocks") [(.lst false [(.var 5), (.tup [(.lit (.str "goto")), (.lit (.int (1)))])])])),
    (.asg 6 (.tup [(.lit (.str "assign")), (.tup [(.lit (.int (5))), (.tup [])]), (.tup [(.lit (.str "binary")), (.lit (.str "<")), (.var 3), (.tup [(.lit (.str "copy")), (.tup [(.lit (.int (2))), (.tup [])])])])])),
    (.expr (.methB .append (.attr (.var 2) "blocks") [(.lst false [(.lst false [(.var 6)]), (.tup [(.lit (.str "switch")), (.tup [(.lit (.str "copy")), (.tup [(.lit (.int (5))), (.tup [])])]), (.tup [(.tup [(.lit (.bool false)), (.lit (.int (3)))])]), (.lit (.int (2)))])])])),
    (.expr (.methB .append (.attr (.var 2) "blocks") [(.lst false [(.lst false [(.tup [(.lit (.str "assign")), (.tup [(.lit (.int (3))), (.tup [])]), (.tup [(.lit (.str "binary")), (.lit (.str "+")), (.var 3), (.var 4)])]), (.tup [(.lit (.str "print")), (.var 4)])]), (.tup [(.lit (.str "goto")), (.lit (.int (1)))])])])),
    (.expr (.methB .append (.attr (.var 2) "blocks") [(.lst false [(.lst false [(.tup [(.lit (.str "print")), (.var 3)]), (.tup [(.lit (.str "print")), (.var 4)])]), (.tup [(.lit (.str "return"))])])])),
    (.asg 7 (.tup [(.lit (.str "const")), (.var 0), (.lit (.int (2)))])),
    (.asg 8 (.tup [(.lit (.str "assign")), (.tup [(.lit (.int (3))), (.tup [])]), (.tup [(.lit (.str "binary")), (.lit (.str "+")), (.var 3), (.var 7)])])),
    (.asg 9 (.lst true [(.sub (.attr (.var 2) "blocks") (.lit (.int (0)))), (.sub (.attr (.var 2) "blocks") (.lit (.int (1)))), (.lst false [(.lst false [(.var 8), (.tup [(.lit (.str "print")), (.var 7)])]), (.tup [(.lit (.str "goto")), (.lit (.int (1)))])])])),
    (.expr (.methB .append (.var 9) [(.lst false [(.lst false [(.tup [(.lit (.str "print")), (.var 3)]), (.tup [(.lit (.str "print")), (.var 7)])]), (.tup [(.lit (.str "return"))])])])),
    (.ret (.cmp .Eq (.comp false (.callB false .list [(.var 1)]) (.one 1) (.attr (.callF 407 [(.var 2)]) "blocks") [] [none, none, none]) (.comp false (.callB false .list [(.var 1)]) (.one 1) (.var 9) [] [none, none, none])))]⟩
theorem at_487 (P : Params) : findN 487 (TT P).funs = some fn_487 := by kernel_rfl
def fn_494 : Fn := ⟨"_law_lent_right", [], [], 7,
    [(.asg 0 (.tup [(.lit (.str "int")), (.lit (.str "u8"))])),
    (.asg 1 (.callC 193 [(.lit (.str "h")), (.lit (.int (0))), (.bin .Add (.bin .Mult (.lst false [(.tup [(.var 0), (.lit (.bool true)), (.lit .none)])]) (.lit (.int (3)))) (.lst false [(.tup [(.tup [(.lit (.str "ref")), (.lit .none), (.lit (.bool true)), (.var 0)]), (.lit (.bool true)), (.lit .none)])]))])),
    (.asg 2 (.lst true [(.tup [(.lit (.str "assign")), (.tup [(.lit (.int (1))), (.tup [])]), (.tup [(.lit (.str "use")), (.tup [(.lit (.str "const")), (.var 0), (.lit (.int (4)))])])]), (.tup [(.lit (.str "assign")), (.tup [(.lit (.int (2))), (.tup [])]), (.tup [(.lit (.str "use")), (.tup [(.lit (.str "const")), (.var 0), (.lit (.int (6)))])])])])),
    (.expr (.methB .append (.var 2) [(.tup [(.lit (.str "assign")), (.tup [(.lit (.int (3))), (.tup [])]), (.tup [(.lit (.str "ref")), (.lit .none), (.lit (.str "mut")), (.tup [(.lit (.int (1))), (.tup [])])])])])),
    (.expr (.methB .append (.var 2) [(.tup [(.lit (.str "assign")), (.tup [(.lit (.int (3))), (.tup [(.tup [(.lit (.str "deref"))])])]), (.tup [(.lit (.str "use")), (.tup [(.lit (.str "copy")), (.tup [(.lit (.int (2))), (.tup [])])])])])])),
    (.expr (.methB .append (.attr (.var 1) "blocks") [(.lst false [(.bin .Add (.var 2) (.lst false [(.tup [(.lit (.str "print")), (.tup [(.lit (.str "copy")), (.tup [(.lit (.int (1))), (.tup [])])])]), (.tup [(.lit (.str "print")), (.tup [(.lit (.str "copy")), (.tup [(.lit (.int (2))), (.tup [])])])])])), (.tup [(.lit (.str "return"))])])])),
    (.asg 3 (.tup [(.lit (.str "const")), (.var 0), (.lit (.int (6)))])),
    (.asg 4 (.bin .Add (.slc (.var 2) none (some (.lit (.int (3))))) (.lst false [(.tup [(.lit (.str "assign")), (.tup [(.lit (.int (3))), (.tup [(.tup [(.lit (.str "deref"))])])]), (.tup [(.lit (.str "use")), (.var 3)])]), (.tup [(.lit (.str "print")), (.tup [(.lit (.str "copy")), (.tup [(.lit (.int (1))), (.tup [])])])]), (.tup [(.lit (.str "print")), (.var 3)])]))),
    (.ret (.cmp .Eq (.sub (.sub (.attr (.callF 407 [(.var 1)]) "blocks") (.lit (.int (0)))) (.lit (.int (0)))) (.var 4)))]⟩
theorem at_494 (P : Params) : findN 494 (TT P).funs = some fn_494 := by kernel_rfl
def fn_501 : Fn := ⟨"law", [0], [], 5,
    [(.ret (.bop true [(.callF 468 [(.callF 421 [(.var 0), (.lst false [])])]), (.callF 487 []), (.callF 494 [])]))]⟩
theorem at_501 (P : Params) : findN 501 (TT P).funs = some fn_501 := by kernel_rfl
end Mine
end
section
open PySem PySem.W
set_option maxRecDepth 100000
set_option linter.unusedSimpArgs false
set_option linter.unusedVariables false
namespace Mine
theorem sok0 : PyData.strOk (Str.ofString "+") = true := by decide +kernel
theorem sok1 : PyData.strOk (Str.ofString "-") = true := by decide +kernel
theorem sok2 : PyData.strOk (Str.ofString "*") = true := by decide +kernel
theorem sok3 : PyData.strOk (Str.ofString "/") = true := by decide +kernel
theorem sok4 : PyData.strOk (Str.ofString "%") = true := by decide +kernel
theorem sok5 : PyData.strOk (Str.ofString "<<") = true := by decide +kernel
theorem sok6 : PyData.strOk (Str.ofString ">>") = true := by decide +kernel
theorem sok7 : PyData.strOk (Str.ofString "const") = true := by decide +kernel
theorem sok8 : PyData.strOk (Str.ofString "copy") = true := by decide +kernel
theorem sok9 : PyData.strOk (Str.ofString "move") = true := by decide +kernel
theorem sok10 : PyData.strOk (Str.ofString "assign") = true := by decide +kernel
theorem sok11 : PyData.strOk (Str.ofString "use") = true := by decide +kernel
theorem sok12 : PyData.strOk (Str.ofString "binary") = true := by decide +kernel
theorem sok13 : PyData.strOk (Str.ofString "checked") = true := by decide +kernel
theorem sok14 : PyData.strOk (Str.ofString "unary") = true := by decide +kernel
theorem sok15 : PyData.strOk (Str.ofString "cast") = true := by decide +kernel
theorem sok16 : PyData.strOk (Str.ofString "print") = true := by decide +kernel
theorem sok17 : PyData.strOk (Str.ofString "goto") = true := by decide +kernel
theorem sok18 : PyData.strOk (Str.ofString "assert") = true := by decide +kernel
theorem sok19 : PyData.strOk (Str.ofString "switch") = true := by decide +kernel
theorem sok20 : PyData.strOk (Str.ofString "return") = true := by decide +kernel
theorem sok21 : PyData.strOk (Str.ofString "field") = true := by decide +kernel
theorem sok22 : PyData.strOk (Str.ofString "int") = true := by decide +kernel
theorem sok23 : PyData.strOk (Str.ofString "bool") = true := by decide +kernel
theorem sok24 : PyData.strOk (Str.ofString "tuple") = true := by decide +kernel
theorem sok25 : PyData.strOk (Str.ofString "live") = true := by decide +kernel
theorem sok26 : PyData.strOk (Str.ofString "dead") = true := by decide +kernel
theorem sok27 : PyData.strOk (Str.ofString "call") = true := by decide +kernel
theorem sok28 : PyData.strOk (Str.ofString "drop") = true := by decide +kernel
theorem sok29 : PyData.strOk (Str.ofString "==") = true := by decide +kernel
theorem sok30 : PyData.strOk (Str.ofString "!=") = true := by decide +kernel
theorem sok31 : PyData.strOk (Str.ofString "<") = true := by decide +kernel
theorem sok32 : PyData.strOk (Str.ofString "<=") = true := by decide +kernel
theorem sok33 : PyData.strOk (Str.ofString ">") = true := by decide +kernel
theorem sok34 : PyData.strOk (Str.ofString ">=") = true := by decide +kernel
theorem sok35 : PyData.strOk (Str.ofString "!") = true := by decide +kernel
theorem sok36 : PyData.strOk (Str.ofString "u8") = true := by decide +kernel
theorem sok37 : PyData.strOk (Str.ofString "i8") = true := by decide +kernel
theorem sok38 : PyData.strOk (Str.ofString "i32") = true := by decide +kernel
theorem sok39 : PyData.strOk (Str.ofString "u64") = true := by decide +kernel
theorem sok40 : PyData.strOk (Str.ofString "none") = true := by decide +kernel
theorem sok41 : PyData.strOk (Str.ofString "over") = true := by decide +kernel
theorem sok42 : PyData.strOk (Str.ofString "adt") = true := by decide +kernel
theorem sok43 : PyData.strOk (Str.ofString "box") = true := by decide +kernel
theorem sok44 : PyData.strOk (Str.ofString "array") = true := by decide +kernel
theorem sok45 : PyData.strOk (Str.ofString "f") = true := by decide +kernel
theorem sok46 : PyData.strOk (Str.ofString "ref") = true := by decide +kernel
theorem sok47 : PyData.strOk (Str.ofString "i") = true := by decide +kernel
theorem sok48 : PyData.strOk (Str.ofString "&") = true := by decide +kernel
theorem sok49 : PyData.strOk (Str.ofString "|") = true := by decide +kernel
theorem sok50 : PyData.strOk (Str.ofString "^") = true := by decide +kernel
theorem strEq_dec (a b : Str) : strEq a b = decide (a = b) := by
  by_cases h : a = b
  · rw [(strEq_iff a b).mpr h]; simp [h]
  · cases q : strEq a b
    · simp [h]
    · exact absurd ((strEq_iff a b).mp q) h
theorem intEq_dec (a b : Int) : intEq a b = decide (a = b) := by
  by_cases h : a = b
  · rw [(intEq_iff a b).mpr h]; simp [h]
  · cases q : intEq a b
    · simp [h]
    · exact absurd ((intEq_iff a b).mp q) h
theorem R_ev (T : Tab) (n : Nat) : (R T (n + 1)).ev = stepEv T (R T n) := rfl
theorem R_ex (T : Tab) (n : Nat) : (R T (n + 1)).ex = stepEx (R T n) := rfl
theorem R_call (T : Tab) (n f : Nat) (vs : List V) (h : List O) {fn : Fn} (e : findN f T.funs = some fn) : (R T (n + 1)).call f vs h = run (R T n) fn vs h := by
  show (match findN f T.funs with | some fn => run (R T n) fn vs h | none => none) = _
  rw [e]
theorem idx0 (n : Nat) : idx 0 n = if Nat.blt 0 n then some 0 else none := rfl
theorem idx1 (n : Nat) : idx 1 n = if Nat.blt 1 n then some 1 else none := rfl
theorem idx2 (n : Nat) : idx 2 n = if Nat.blt 2 n then some 2 else none := rfl
theorem idx3 (n : Nat) : idx 3 n = if Nat.blt 3 n then some 3 else none := rfl
theorem idx4 (n : Nat) : idx 4 n = if Nat.blt 4 n then some 4 else none := rfl
theorem idxm (n : Nat) : idx (-1) n = if Nat.blt 0 n then some (n - 1 - 0) else none := rfl
theorem natOf2 : natOf (.d (.int 2)) = some 2 := rfl
theorem natOf3 : natOf (.d (.int 3)) = some 3 := rfl
theorem natOf5 : natOf (.d (.int 5)) = some 5 := rfl
theorem back_d {h : List O} {x : PyData} : back h.length (some (.d x, h)) = some (.d x, h) := by
  unfold back; dsimp only; rw [List.take_length]; split <;> rfl
variable {P : Params}
def isKind (k : Str) (lo : Int) (b : Nat) : Prop := (k = "u8" ∧ lo = 0 ∧ b = 8) ∨ (k = "i8" ∧ lo = -128 ∧ b = 8) ∨ (k = "i32" ∧ lo = -2147483648 ∧ b = 32) ∨ (k = "u64" ∧ lo = 0 ∧ b = 64)
def wrapS (lo : Int) (b : Nat) (x : Int) : Int := lo + (x - lo).fmod (2 ^ b)
def fitB (lo : Int) (b : Nat) (x : Int) : Bool := decide (lo ≤ x) && decide (x ≤ lo + 2 ^ b - 1)
theorem c62 {n : Nat} {h : List O} {k : Str} {lo : Int} {b : Nat} (K : isKind k lo b) : (R (TT P) (n + 7)).call 62 [.d (.str k)] h = some (.d (.bool (decide (lo < 0))), h) := by
  rcases K with ⟨rfl, rfl, rfl⟩ | ⟨rfl, rfl, rfl⟩ | ⟨rfl, rfl, rfl⟩ | ⟨rfl, rfl, rfl⟩
  · exact Eq.trans (b := back h.length (some (.d (.bool false), h))) (by kernel_rfl) back_d
  · exact Eq.trans (b := back h.length (some (.d (.bool true), h))) (by kernel_rfl) back_d
  · exact Eq.trans (b := back h.length (some (.d (.bool true), h))) (by kernel_rfl) back_d
  · exact Eq.trans (b := back h.length (some (.d (.bool false), h))) (by kernel_rfl) back_d
theorem c69 {n : Nat} {h : List O} {k : Str} {lo : Int} {b : Nat} (K : isKind k lo b) : (R (TT P) (n + 20)).call 69 [.d (.str k)] h = some (.d (.int lo), h) := by
  rw [R_call _ _ _ _ _ (at_69 P)]
  have e := fun h => c62 (P := P) (n := n + 9) (h := h) K
  rcases K with ⟨rfl, rfl, rfl⟩ | ⟨rfl, rfl, rfl⟩ | ⟨rfl, rfl, rfl⟩ | ⟨rfl, rfl, rfl⟩ <;> simp (config := { decide := true }) [e, fn_69, run, bindArgs, pick, exs, R_ex, R_ev, stepEx, stepEv, evs, evp, bopV, ifsAll, tst, tstN, tstA, srcOf, nextS, bindT, bindU, parts, initR, back, subV, attrV, findS, atL, idx0, idx1, idx2, idx3, idx4, idxm, short, lim, methB, mkind, sameKind, V.und, undL, truthy, isNone, bB, bI, binV, rd, cmpV, eqV, inV, natOf2, natOf3, natOf5, slcV, optNat, mkTup, allD, mkList, setS, setA, small, callB, anyEq, deq, deqs, intEq_dec, strEq_dec, sok0, sok1, sok2, sok3, sok4, sok5, sok6, sok7, sok8, sok9, sok10, sok11, sok12, sok13, sok14, sok15, sok16, sok17, sok18, sok19, sok20, sok21, sok22, sok23, sok24, sok25, sok26, sok27, sok28, sok29, sok30, sok31, sok32, sok33, sok34, sok35, sok36, sok37, sok38, sok39, sok40, sok41, sok42, sok43, sok44, sok45, sok46, sok47, sok48, sok49, sok50, lay, PyData.canLay0, PyData.canLayAll0, PyData.depth, PyData.depthAll, mkDict, dspS, dspI, dspII, putS, ite_self]
end Mine
end
section
open PySem PySem.W
set_option maxRecDepth 100000
set_option linter.unusedSimpArgs false
set_option linter.unusedVariables false
namespace Mine
variable {P : Params} {n : Nat} {h : List O} {k : Str} {lo : Int} {b : Nat}
theorem c76 (K : isKind k lo b) : (R (TT P) (n + 20)).call 76 [.d (.str k)] h = some (.d (.int (lo + 2 ^ b - 1)), h) := by
  rw [R_call _ _ _ _ _ (at_76 P)]
  have e := fun n h => c62 (P := P) (n := n) (h := h) K
  rcases K with ⟨rfl, rfl, rfl⟩ | ⟨rfl, rfl, rfl⟩ | ⟨rfl, rfl, rfl⟩ | ⟨rfl, rfl, rfl⟩ <;> simp (config := { decide := true }) [e, fn_76, run, bindArgs, pick, exs, R_ex, R_ev, stepEx, stepEv, evs, evp, bopV, ifsAll, tst, tstN, tstA, srcOf, nextS, bindT, bindU, parts, initR, back, subV, attrV, findS, atL, idx0, idx1, idx2, idx3, idx4, idxm, short, lim, methB, mkind, sameKind, V.und, undL, truthy, isNone, bB, bI, binV, rd, cmpV, eqV, inV, natOf2, natOf3, natOf5, slcV, optNat, mkTup, allD, mkList, setS, setA, small, callB, anyEq, deq, deqs, intEq_dec, strEq_dec, sok0, sok1, sok2, sok3, sok4, sok5, sok6, sok7, sok8, sok9, sok10, sok11, sok12, sok13, sok14, sok15, sok16, sok17, sok18, sok19, sok20, sok21, sok22, sok23, sok24, sok25, sok26, sok27, sok28, sok29, sok30, sok31, sok32, sok33, sok34, sok35, sok36, sok37, sok38, sok39, sok40, sok41, sok42, sok43, sok44, sok45, sok46, sok47, sok48, sok49, sok50, lay, PyData.canLay0, PyData.canLayAll0, PyData.depth, PyData.depthAll, mkDict, dspS, dspI, dspII, putS, ite_self]
theorem c83 {x : Int} (K : isKind k lo b) : (R (TT P) (n + 30)).call 83 [.d (.str k), .d (.int x)] h = some (.d (.bool (fitB lo b x)), h) := by
  rw [R_call _ _ _ _ _ (at_83 P)]
  have e1 := fun n h => c69 (P := P) (n := n) (h := h) K
  have e2 := fun n h => c76 (P := P) (n := n) (h := h) K
  unfold fitB
  cases hq : decide (lo ≤ x) <;> simp (config := { decide := true }) [e1, e2, hq, fn_83, run, bindArgs, pick, exs, R_ex, R_ev, stepEx, stepEv, evs, evp, bopV, ifsAll, tst, tstN, tstA, srcOf, nextS, bindT, bindU, parts, initR, back, subV, attrV, findS, atL, idx0, idx1, idx2, idx3, idx4, idxm, short, lim, methB, mkind, sameKind, V.und, undL, truthy, isNone, bB, bI, binV, rd, cmpV, eqV, inV, natOf2, natOf3, natOf5, slcV, optNat, mkTup, allD, mkList, setS, setA, small, callB, anyEq, deq, deqs, intEq_dec, strEq_dec, sok0, sok1, sok2, sok3, sok4, sok5, sok6, sok7, sok8, sok9, sok10, sok11, sok12, sok13, sok14, sok15, sok16, sok17, sok18, sok19, sok20, sok21, sok22, sok23, sok24, sok25, sok26, sok27, sok28, sok29, sok30, sok31, sok32, sok33, sok34, sok35, sok36, sok37, sok38, sok39, sok40, sok41, sok42, sok43, sok44, sok45, sok46, sok47, sok48, sok49, sok50, lay, PyData.canLay0, PyData.canLayAll0, PyData.depth, PyData.depthAll, mkDict, dspS, dspI, dspII, putS, ite_self]
theorem c90 {x : Int} (K : isKind k lo b) : (R (TT P) (n + 30)).call 90 [.d (.str k), .d (.int x)] h = some (.d (.int (wrapS lo b x)), h) := by
  rw [R_call _ _ _ _ _ (at_90 P)]
  have e1 := fun n h => c69 (P := P) (n := n) (h := h) K
  rcases K with ⟨rfl, rfl, rfl⟩ | ⟨rfl, rfl, rfl⟩ | ⟨rfl, rfl, rfl⟩ | ⟨rfl, rfl, rfl⟩ <;> simp (config := { decide := true }) [e1, wrapS, fn_90, run, bindArgs, pick, exs, R_ex, R_ev, stepEx, stepEv, evs, evp, bopV, ifsAll, tst, tstN, tstA, srcOf, nextS, bindT, bindU, parts, initR, back, subV, attrV, findS, atL, idx0, idx1, idx2, idx3, idx4, idxm, short, lim, methB, mkind, sameKind, V.und, undL, truthy, isNone, bB, bI, binV, rd, cmpV, eqV, inV, natOf2, natOf3, natOf5, slcV, optNat, mkTup, allD, mkList, setS, setA, small, callB, anyEq, deq, deqs, intEq_dec, strEq_dec, sok0, sok1, sok2, sok3, sok4, sok5, sok6, sok7, sok8, sok9, sok10, sok11, sok12, sok13, sok14, sok15, sok16, sok17, sok18, sok19, sok20, sok21, sok22, sok23, sok24, sok25, sok26, sok27, sok28, sok29, sok30, sok31, sok32, sok33, sok34, sok35, sok36, sok37, sok38, sok39, sok40, sok41, sok42, sok43, sok44, sok45, sok46, sok47, sok48, sok49, sok50, lay, PyData.canLay0, PyData.canLayAll0, PyData.depth, PyData.depthAll, mkDict, dspS, dspI, dspII, putS, ite_self]
theorem c97 {x : Int} (K : isKind k lo b) : (R (TT P) (n + 40)).call 97 [.d (.str k), .d (.int x)] h = some (.d (.int (wrapS lo b x)), h) := by
  rw [R_call _ _ _ _ _ (at_97 P)]
  have e1 := fun n h x => c90 (P := P) (n := n) (h := h) (x := x) K
  simp (config := { decide := true }) [e1, fn_97, run, bindArgs, pick, exs, R_ex, R_ev, stepEx, stepEv, evs, evp, bopV, ifsAll, tst, tstN, tstA, srcOf, nextS, bindT, bindU, parts, initR, back, subV, attrV, findS, atL, idx0, idx1, idx2, idx3, idx4, idxm, short, lim, methB, mkind, sameKind, V.und, undL, truthy, isNone, bB, bI, binV, rd, cmpV, eqV, inV, natOf2, natOf3, natOf5, slcV, optNat, mkTup, allD, mkList, setS, setA, small, callB, anyEq, deq, deqs, intEq_dec, strEq_dec, sok0, sok1, sok2, sok3, sok4, sok5, sok6, sok7, sok8, sok9, sok10, sok11, sok12, sok13, sok14, sok15, sok16, sok17, sok18, sok19, sok20, sok21, sok22, sok23, sok24, sok25, sok26, sok27, sok28, sok29, sok30, sok31, sok32, sok33, sok34, sok35, sok36, sok37, sok38, sok39, sok40, sok41, sok42, sok43, sok44, sok45, sok46, sok47, sok48, sok49, sok50, lay, PyData.canLay0, PyData.canLayAll0, PyData.depth, PyData.depthAll, mkDict, dspS, dspI, dspII, putS, ite_self]
end Mine
end
section
open PySem PySem.W
set_option maxRecDepth 100000
set_option linter.unusedSimpArgs false
set_option linter.unusedVariables false
namespace Mine
variable {P : Params} {n : Nat} {h : List O} {k : Str} {lo : Int} {b : Nat}
def absS (a : Int) : Int := if decide (a < 0) then -a else a
def quotS (a o : Int) : Int := if decide (a < 0) == decide (o < 0) then (absS a).fdiv (absS o) else 0 - (absS a).fdiv (absS o)
theorem small_abs {o : Int} (h : small o = true) : small (absS o) = true := by
  unfold absS
  split
  · unfold small at *; rwa [Int.natAbs_neg]
  · exact h
theorem abs_ne {o : Int} (h : o ≠ 0) : absS o ≠ 0 := by
  unfold absS
  split <;> simp [h]
theorem c104 {a o : Int} (hs : small o = true) (ho : o ≠ 0) : (R (TT P) (n + 20)).call 104 [.d (.int a), .d (.int o)] h = some (.d (.int (quotS a o)), h) := by
  rw [R_call _ _ _ _ _ (at_104 P)]
  have e1 := small_abs hs
  have e2 := abs_ne ho
  have e3 : ∀ a : Int, (if decide (a < 0) = true then -a else a) = absS a := fun a => rfl
  unfold small at e1
  cases hq : (decide (a < 0) == decide (o < 0)) <;> simp (config := { decide := true }) [-decide_eq_true_eq, e1, e2, e3, hq, quotS, fn_104, run, bindArgs, pick, exs, R_ex, R_ev, stepEx, stepEv, evs, evp, bopV, ifsAll, tst, tstN, tstA, srcOf, nextS, bindT, bindU, parts, initR, back, subV, attrV, findS, atL, idx0, idx1, idx2, idx3, idx4, idxm, short, lim, methB, mkind, sameKind, V.und, undL, truthy, isNone, bB, bI, binV, rd, cmpV, eqV, inV, natOf2, natOf3, natOf5, slcV, optNat, mkTup, allD, mkList, setS, setA, small, callB, anyEq, deq, deqs, intEq_dec, strEq_dec, sok0, sok1, sok2, sok3, sok4, sok5, sok6, sok7, sok8, sok9, sok10, sok11, sok12, sok13, sok14, sok15, sok16, sok17, sok18, sok19, sok20, sok21, sok22, sok23, sok24, sok25, sok26, sok27, sok28, sok29, sok30, sok31, sok32, sok33, sok34, sok35, sok36, sok37, sok38, sok39, sok40, sok41, sok42, sok43, sok44, sok45, sok46, sok47, sok48, sok49, sok50, lay, PyData.canLay0, PyData.canLayAll0, PyData.depth, PyData.depthAll, mkDict, dspS, dspI, dspII, putS, ite_self]
end Mine
end
section
open PySem PySem.W
set_option maxRecDepth 100000
set_option linter.unusedSimpArgs false
set_option linter.unusedVariables false
namespace Mine
variable {P : Params} {n : Nat} {h : List O} {k : Str} {lo : Int} {b : Nat}
def placesS (b : Nat) (o : Int) : Int := (2 : Int) ^ (o.fmod b).toNat
def wholeS (op : Str) (b : Nat) (a o : Int) : Int :=
  if op = "+" then a + o else if op = "-" then a - o else if op = "*" then a * o else if op = "/" then quotS a o else if op = "%" then a - o * quotS a o
  else if op = "<<" then a * placesS b o else a.fdiv (placesS b o)
def isOp (op : Str) : Prop := op = "+" ∨ op = "-" ∨ op = "*" ∨ op = "/" ∨ op = "%" ∨ op = "<<" ∨ op = ">>"
def overS (op : Str) (lo : Int) (b : Nat) (a o : Int) : Bool :=
  if op = "<<" ∨ op = ">>" then !(decide (0 ≤ o) && decide (o < b)) else if op = "%" ∧ lo < 0 ∧ o = -1 then decide (a = lo) else !fitB lo b (wholeS op b a o)
theorem places_ok (K : isKind k lo b) (o : Int) : small (placesS b o) = true ∧ placesS b o ≠ 0 ∧ (0 ≤ o.fmod b ∧ o.fmod b ≤ 200) := by
  have hb : 0 < b ∧ b ≤ 64 := by rcases K with ⟨_, _, rfl⟩ | ⟨_, _, rfl⟩ | ⟨_, _, rfl⟩ | ⟨_, _, rfl⟩ <;> decide
  have h1 : 0 ≤ o.fmod b := by rw [Int.fmod_eq_emod_of_nonneg o (by omega)]; exact Int.emod_nonneg o (by omega)
  have h2 : o.fmod b < b := Int.fmod_lt_of_pos o (by omega)
  refine ⟨?_, ?_, h1, by omega⟩
  · unfold small placesS
    have h3 : (o.fmod b).toNat ≤ 63 := by omega
    have h4 : ((2 : Int) ^ (o.fmod b).toNat).natAbs = 2 ^ (o.fmod b).toNat := by rw [Int.natAbs_pow]; rfl
    rw [h4]
    refine Nat.blt_eq.mpr ?_
    exact Nat.pow_lt_pow_right (by decide) (by omega)
  · unfold placesS
    exact Int.pow_ne_zero (by decide)
theorem c111 {op : Str} {a o : Int} (hop : op = "+" ∨ op = "-" ∨ op = "*" ∨ op = "/" ∨ op = "%") (hs : small o = true) (ho : o ≠ 0 ∨ (op ≠ "/" ∧ op ≠ "%")) : (R (TT P) (n + 40)).call 111 [.d (.str op), .d (.int a), .d (.int o)] h = some (.d (.int (wholeS op b a o)), h) := by
  rw [R_call _ _ _ _ _ (at_111 P)]
  unfold small at hs
  rcases hop with rfl | rfl | rfl | rfl | rfl
  · simp (config := { decide := true }) [fn_111, wholeS, run, bindArgs, pick, exs, R_ex, R_ev, stepEx, stepEv, evs, evp, bopV, ifsAll, tst, tstN, tstA, srcOf, nextS, bindT, bindU, parts, initR, back, subV, attrV, findS, atL, idx0, idx1, idx2, idx3, idx4, idxm, short, lim, methB, mkind, sameKind, V.und, undL, truthy, isNone, bB, bI, binV, rd, cmpV, eqV, inV, natOf2, natOf3, natOf5, slcV, optNat, mkTup, allD, mkList, setS, setA, small, callB, anyEq, deq, deqs, intEq_dec, strEq_dec, sok0, sok1, sok2, sok3, sok4, sok5, sok6, sok7, sok8, sok9, sok10, sok11, sok12, sok13, sok14, sok15, sok16, sok17, sok18, sok19, sok20, sok21, sok22, sok23, sok24, sok25, sok26, sok27, sok28, sok29, sok30, sok31, sok32, sok33, sok34, sok35, sok36, sok37, sok38, sok39, sok40, sok41, sok42, sok43, sok44, sok45, sok46, sok47, sok48, sok49, sok50, lay, PyData.canLay0, PyData.canLayAll0, PyData.depth, PyData.depthAll, mkDict, dspS, dspI, dspII, putS, ite_self]
  · simp (config := { decide := true }) [fn_111, wholeS, run, bindArgs, pick, exs, R_ex, R_ev, stepEx, stepEv, evs, evp, bopV, ifsAll, tst, tstN, tstA, srcOf, nextS, bindT, bindU, parts, initR, back, subV, attrV, findS, atL, idx0, idx1, idx2, idx3, idx4, idxm, short, lim, methB, mkind, sameKind, V.und, undL, truthy, isNone, bB, bI, binV, rd, cmpV, eqV, inV, natOf2, natOf3, natOf5, slcV, optNat, mkTup, allD, mkList, setS, setA, small, callB, anyEq, deq, deqs, intEq_dec, strEq_dec, sok0, sok1, sok2, sok3, sok4, sok5, sok6, sok7, sok8, sok9, sok10, sok11, sok12, sok13, sok14, sok15, sok16, sok17, sok18, sok19, sok20, sok21, sok22, sok23, sok24, sok25, sok26, sok27, sok28, sok29, sok30, sok31, sok32, sok33, sok34, sok35, sok36, sok37, sok38, sok39, sok40, sok41, sok42, sok43, sok44, sok45, sok46, sok47, sok48, sok49, sok50, lay, PyData.canLay0, PyData.canLayAll0, PyData.depth, PyData.depthAll, mkDict, dspS, dspI, dspII, putS, ite_self]
  · simp (config := { decide := true }) [fn_111, wholeS, hs, run, bindArgs, pick, exs, R_ex, R_ev, stepEx, stepEv, evs, evp, bopV, ifsAll, tst, tstN, tstA, srcOf, nextS, bindT, bindU, parts, initR, back, subV, attrV, findS, atL, idx0, idx1, idx2, idx3, idx4, idxm, short, lim, methB, mkind, sameKind, V.und, undL, truthy, isNone, bB, bI, binV, rd, cmpV, eqV, inV, natOf2, natOf3, natOf5, slcV, optNat, mkTup, allD, mkList, setS, setA, small, callB, anyEq, deq, deqs, intEq_dec, strEq_dec, sok0, sok1, sok2, sok3, sok4, sok5, sok6, sok7, sok8, sok9, sok10, sok11, sok12, sok13, sok14, sok15, sok16, sok17, sok18, sok19, sok20, sok21, sok22, sok23, sok24, sok25, sok26, sok27, sok28, sok29, sok30, sok31, sok32, sok33, sok34, sok35, sok36, sok37, sok38, sok39, sok40, sok41, sok42, sok43, sok44, sok45, sok46, sok47, sok48, sok49, sok50, lay, PyData.canLay0, PyData.canLayAll0, PyData.depth, PyData.depthAll, mkDict, dspS, dspI, dspII, putS, ite_self]
  · have h0 : o ≠ 0 := by rcases ho with h | h; exact h; exact absurd rfl h.1
    have e := fun n h => c104 (P := P) (n := n) (h := h) (a := a) hs h0
    simp (config := { decide := true }) [fn_111, wholeS, e, h0, run, bindArgs, pick, exs, R_ex, R_ev, stepEx, stepEv, evs, evp, bopV, ifsAll, tst, tstN, tstA, srcOf, nextS, bindT, bindU, parts, initR, back, subV, attrV, findS, atL, idx0, idx1, idx2, idx3, idx4, idxm, short, lim, methB, mkind, sameKind, V.und, undL, truthy, isNone, bB, bI, binV, rd, cmpV, eqV, inV, natOf2, natOf3, natOf5, slcV, optNat, mkTup, allD, mkList, setS, setA, small, callB, anyEq, deq, deqs, intEq_dec, strEq_dec, sok0, sok1, sok2, sok3, sok4, sok5, sok6, sok7, sok8, sok9, sok10, sok11, sok12, sok13, sok14, sok15, sok16, sok17, sok18, sok19, sok20, sok21, sok22, sok23, sok24, sok25, sok26, sok27, sok28, sok29, sok30, sok31, sok32, sok33, sok34, sok35, sok36, sok37, sok38, sok39, sok40, sok41, sok42, sok43, sok44, sok45, sok46, sok47, sok48, sok49, sok50, lay, PyData.canLay0, PyData.canLayAll0, PyData.depth, PyData.depthAll, mkDict, dspS, dspI, dspII, putS, ite_self]
  · have h0 : o ≠ 0 := by rcases ho with h | h; exact h; exact absurd rfl h.2
    have e := fun n h => c104 (P := P) (n := n) (h := h) (a := a) hs h0
    have hm : ∀ y : Int, (if (small y || small o) = true then some (V.d (.int (o * y))) else none) = some (V.d (.int (o * y))) := fun y => by
      rw [show small o = true from hs]; simp
    unfold small at hm
    simp (config := { decide := true }) [fn_111, wholeS, e, h0, hs, run, bindArgs, pick, exs, R_ex, R_ev, stepEx, stepEv, evs, evp, bopV, ifsAll, tst, tstN, tstA, srcOf, nextS, bindT, bindU, parts, initR, back, subV, attrV, findS, atL, idx0, idx1, idx2, idx3, idx4, idxm, short, lim, methB, mkind, sameKind, V.und, undL, truthy, isNone, bB, bI, binV, rd, cmpV, eqV, inV, natOf2, natOf3, natOf5, slcV, optNat, mkTup, allD, mkList, setS, setA, small, callB, anyEq, deq, deqs, intEq_dec, strEq_dec, sok0, sok1, sok2, sok3, sok4, sok5, sok6, sok7, sok8, sok9, sok10, sok11, sok12, sok13, sok14, sok15, sok16, sok17, sok18, sok19, sok20, sok21, sok22, sok23, sok24, sok25, sok26, sok27, sok28, sok29, sok30, sok31, sok32, sok33, sok34, sok35, sok36, sok37, sok38, sok39, sok40, sok41, sok42, sok43, sok44, sok45, sok46, sok47, sok48, sok49, sok50, lay, PyData.canLay0, PyData.canLayAll0, PyData.depth, PyData.depthAll, mkDict, dspS, dspI, dspII, putS, ite_self]
theorem c111z {op : Str} {a : Int} (hop : op = "/" ∨ op = "%") : (R (TT P) (n + 40)).call 111 [.d (.str op), .d (.int a), .d (.int 0)] h = some (.d .none, h) := by
  rw [R_call _ _ _ _ _ (at_111 P)]
  rcases hop with rfl | rfl <;> simp (config := { decide := true }) [fn_111, run, bindArgs, pick, exs, R_ex, R_ev, stepEx, stepEv, evs, evp, bopV, ifsAll, tst, tstN, tstA, srcOf, nextS, bindT, bindU, parts, initR, back, subV, attrV, findS, atL, idx0, idx1, idx2, idx3, idx4, idxm, short, lim, methB, mkind, sameKind, V.und, undL, truthy, isNone, bB, bI, binV, rd, cmpV, eqV, inV, natOf2, natOf3, natOf5, slcV, optNat, mkTup, allD, mkList, setS, setA, small, callB, anyEq, deq, deqs, intEq_dec, strEq_dec, sok0, sok1, sok2, sok3, sok4, sok5, sok6, sok7, sok8, sok9, sok10, sok11, sok12, sok13, sok14, sok15, sok16, sok17, sok18, sok19, sok20, sok21, sok22, sok23, sok24, sok25, sok26, sok27, sok28, sok29, sok30, sok31, sok32, sok33, sok34, sok35, sok36, sok37, sok38, sok39, sok40, sok41, sok42, sok43, sok44, sok45, sok46, sok47, sok48, sok49, sok50, lay, PyData.canLay0, PyData.canLayAll0, PyData.depth, PyData.depthAll, mkDict, dspS, dspI, dspII, putS, ite_self]
theorem c125 {op : Str} {a o : Int} (K : isKind k lo b) (hop : op = "<<" ∨ op = ">>") : (R (TT P) (n + 50)).call 125 [.d (.str k), .d (.str op), .d (.int a), .d (.int o)] h = some (.d (.tuple [.int (wrapS lo b (wholeS op b a o)), .bool (overS op lo b a o)]), h) := by
  rw [R_call _ _ _ _ _ (at_125 P)]
  have e1 := fun n h x => c90 (P := P) (n := n) (h := h) (x := x) K
  obtain ⟨p1, p2, p3, p4⟩ := places_ok K o
  have p5 : o.fmod b ≤ 200 := p4
  unfold small placesS at p1
  unfold placesS at p2
  rcases hop with rfl | rfl
  · cases hq : decide (0 ≤ o) <;> rcases K with ⟨rfl, rfl, rfl⟩ | ⟨rfl, rfl, rfl⟩ | ⟨rfl, rfl, rfl⟩ | ⟨rfl, rfl, rfl⟩ <;> simp at p1 p2 p3 p5 <;>
    simp (config := { decide := true }) [fn_125, wholeS, overS, placesS, e1, hq, p1, p2, p3, p5, run, bindArgs, pick, exs, R_ex, R_ev, stepEx, stepEv, evs, evp, bopV, ifsAll, tst, tstN, tstA, srcOf, nextS, bindT, bindU, parts, initR, back, subV, attrV, findS, atL, idx0, idx1, idx2, idx3, idx4, idxm, short, lim, methB, mkind, sameKind, V.und, undL, truthy, isNone, bB, bI, binV, rd, cmpV, eqV, inV, natOf2, natOf3, natOf5, slcV, optNat, mkTup, allD, mkList, setS, setA, small, callB, anyEq, deq, deqs, intEq_dec, strEq_dec, sok0, sok1, sok2, sok3, sok4, sok5, sok6, sok7, sok8, sok9, sok10, sok11, sok12, sok13, sok14, sok15, sok16, sok17, sok18, sok19, sok20, sok21, sok22, sok23, sok24, sok25, sok26, sok27, sok28, sok29, sok30, sok31, sok32, sok33, sok34, sok35, sok36, sok37, sok38, sok39, sok40, sok41, sok42, sok43, sok44, sok45, sok46, sok47, sok48, sok49, sok50, lay, PyData.canLay0, PyData.canLayAll0, PyData.depth, PyData.depthAll, mkDict, dspS, dspI, dspII, putS, ite_self]
  · cases hq : decide (0 ≤ o) <;> rcases K with ⟨rfl, rfl, rfl⟩ | ⟨rfl, rfl, rfl⟩ | ⟨rfl, rfl, rfl⟩ | ⟨rfl, rfl, rfl⟩ <;> simp at p1 p2 p3 p5 <;>
    simp (config := { decide := true }) [fn_125, wholeS, overS, placesS, e1, hq, p1, p2, p3, p5, run, bindArgs, pick, exs, R_ex, R_ev, stepEx, stepEv, evs, evp, bopV, ifsAll, tst, tstN, tstA, srcOf, nextS, bindT, bindU, parts, initR, back, subV, attrV, findS, atL, idx0, idx1, idx2, idx3, idx4, idxm, short, lim, methB, mkind, sameKind, V.und, undL, truthy, isNone, bB, bI, binV, rd, cmpV, eqV, inV, natOf2, natOf3, natOf5, slcV, optNat, mkTup, allD, mkList, setS, setA, small, callB, anyEq, deq, deqs, intEq_dec, strEq_dec, sok0, sok1, sok2, sok3, sok4, sok5, sok6, sok7, sok8, sok9, sok10, sok11, sok12, sok13, sok14, sok15, sok16, sok17, sok18, sok19, sok20, sok21, sok22, sok23, sok24, sok25, sok26, sok27, sok28, sok29, sok30, sok31, sok32, sok33, sok34, sok35, sok36, sok37, sok38, sok39, sok40, sok41, sok42, sok43, sok44, sok45, sok46, sok47, sok48, sok49, sok50, lay, PyData.canLay0, PyData.canLayAll0, PyData.depth, PyData.depthAll, mkDict, dspS, dspI, dspII, putS, ite_self]
end Mine
end
section
open PySem PySem.W
set_option maxRecDepth 100000
set_option linter.unusedSimpArgs false
set_option linter.unusedVariables false
namespace Mine
variable {P : Params} {n : Nat} {h : List O} {k : Str} {lo : Int} {b : Nat}
theorem kind_lay (K : isKind k lo b) : PyData.strOk k = true := by
  rcases K with ⟨rfl, _, _⟩ | ⟨rfl, _, _⟩ | ⟨rfl, _, _⟩ | ⟨rfl, _, _⟩ <;> decide +kernel
theorem c118 {op : Str} {a o : Int} (K : isKind k lo b) (hop : isOp op) (hs : small o = true) (ho : o ≠ 0 ∨ (op ≠ "/" ∧ op ≠ "%")) :
    (R (TT P) (n + 60)).call 118 [.d (.str k), .d (.str op), .d (.int a), .d (.int o)] h = some (.d (.tuple [.int (wrapS lo b (wholeS op b a o)), .bool (overS op lo b a o)]), h) := by
  rw [R_call _ _ _ _ _ (at_118 P)]
  have e1 := fun n h x => c90 (P := P) (n := n) (h := h) (x := x) K
  have e2 := fun n h x => c83 (P := P) (n := n) (h := h) (x := x) K
  have e3 := fun n h => c62 (P := P) (n := n) (h := h) K
  have e4 := fun n h => c69 (P := P) (n := n) (h := h) K
  rcases hop with rfl | rfl | rfl | rfl | rfl | rfl | rfl
  · have e5 := fun n h => c111 (P := P) (n := n) (h := h) (b := b) (op := "+") (a := a) (o := o) (.inl rfl) hs ho
    simp (config := { decide := true }) [fn_118, overS, e1, e2, e5, run, bindArgs, pick, exs, R_ex, R_ev, stepEx, stepEv, evs, evp, bopV, ifsAll, tst, tstN, tstA, srcOf, nextS, bindT, bindU, parts, initR, back, subV, attrV, findS, atL, idx0, idx1, idx2, idx3, idx4, idxm, short, lim, methB, mkind, sameKind, V.und, undL, truthy, isNone, bB, bI, binV, rd, cmpV, eqV, inV, natOf2, natOf3, natOf5, slcV, optNat, mkTup, allD, mkList, setS, setA, small, callB, anyEq, deq, deqs, intEq_dec, strEq_dec, sok0, sok1, sok2, sok3, sok4, sok5, sok6, sok7, sok8, sok9, sok10, sok11, sok12, sok13, sok14, sok15, sok16, sok17, sok18, sok19, sok20, sok21, sok22, sok23, sok24, sok25, sok26, sok27, sok28, sok29, sok30, sok31, sok32, sok33, sok34, sok35, sok36, sok37, sok38, sok39, sok40, sok41, sok42, sok43, sok44, sok45, sok46, sok47, sok48, sok49, sok50, lay, PyData.canLay0, PyData.canLayAll0, PyData.depth, PyData.depthAll, mkDict, dspS, dspI, dspII, putS, ite_self]
  · have e5 := fun n h => c111 (P := P) (n := n) (h := h) (b := b) (op := "-") (a := a) (o := o) (.inr (.inl rfl)) hs ho
    simp (config := { decide := true }) [fn_118, overS, e1, e2, e5, run, bindArgs, pick, exs, R_ex, R_ev, stepEx, stepEv, evs, evp, bopV, ifsAll, tst, tstN, tstA, srcOf, nextS, bindT, bindU, parts, initR, back, subV, attrV, findS, atL, idx0, idx1, idx2, idx3, idx4, idxm, short, lim, methB, mkind, sameKind, V.und, undL, truthy, isNone, bB, bI, binV, rd, cmpV, eqV, inV, natOf2, natOf3, natOf5, slcV, optNat, mkTup, allD, mkList, setS, setA, small, callB, anyEq, deq, deqs, intEq_dec, strEq_dec, sok0, sok1, sok2, sok3, sok4, sok5, sok6, sok7, sok8, sok9, sok10, sok11, sok12, sok13, sok14, sok15, sok16, sok17, sok18, sok19, sok20, sok21, sok22, sok23, sok24, sok25, sok26, sok27, sok28, sok29, sok30, sok31, sok32, sok33, sok34, sok35, sok36, sok37, sok38, sok39, sok40, sok41, sok42, sok43, sok44, sok45, sok46, sok47, sok48, sok49, sok50, lay, PyData.canLay0, PyData.canLayAll0, PyData.depth, PyData.depthAll, mkDict, dspS, dspI, dspII, putS, ite_self]
  · have e5 := fun n h => c111 (P := P) (n := n) (h := h) (b := b) (op := "*") (a := a) (o := o) (.inr (.inr (.inl rfl))) hs ho
    simp (config := { decide := true }) [fn_118, overS, e1, e2, e5, run, bindArgs, pick, exs, R_ex, R_ev, stepEx, stepEv, evs, evp, bopV, ifsAll, tst, tstN, tstA, srcOf, nextS, bindT, bindU, parts, initR, back, subV, attrV, findS, atL, idx0, idx1, idx2, idx3, idx4, idxm, short, lim, methB, mkind, sameKind, V.und, undL, truthy, isNone, bB, bI, binV, rd, cmpV, eqV, inV, natOf2, natOf3, natOf5, slcV, optNat, mkTup, allD, mkList, setS, setA, small, callB, anyEq, deq, deqs, intEq_dec, strEq_dec, sok0, sok1, sok2, sok3, sok4, sok5, sok6, sok7, sok8, sok9, sok10, sok11, sok12, sok13, sok14, sok15, sok16, sok17, sok18, sok19, sok20, sok21, sok22, sok23, sok24, sok25, sok26, sok27, sok28, sok29, sok30, sok31, sok32, sok33, sok34, sok35, sok36, sok37, sok38, sok39, sok40, sok41, sok42, sok43, sok44, sok45, sok46, sok47, sok48, sok49, sok50, lay, PyData.canLay0, PyData.canLayAll0, PyData.depth, PyData.depthAll, mkDict, dspS, dspI, dspII, putS, ite_self]
  · have e5 := fun n h => c111 (P := P) (n := n) (h := h) (b := b) (op := "/") (a := a) (o := o) (.inr (.inr (.inr (.inl rfl)))) hs ho
    simp (config := { decide := true }) [fn_118, overS, e1, e2, e5, run, bindArgs, pick, exs, R_ex, R_ev, stepEx, stepEv, evs, evp, bopV, ifsAll, tst, tstN, tstA, srcOf, nextS, bindT, bindU, parts, initR, back, subV, attrV, findS, atL, idx0, idx1, idx2, idx3, idx4, idxm, short, lim, methB, mkind, sameKind, V.und, undL, truthy, isNone, bB, bI, binV, rd, cmpV, eqV, inV, natOf2, natOf3, natOf5, slcV, optNat, mkTup, allD, mkList, setS, setA, small, callB, anyEq, deq, deqs, intEq_dec, strEq_dec, sok0, sok1, sok2, sok3, sok4, sok5, sok6, sok7, sok8, sok9, sok10, sok11, sok12, sok13, sok14, sok15, sok16, sok17, sok18, sok19, sok20, sok21, sok22, sok23, sok24, sok25, sok26, sok27, sok28, sok29, sok30, sok31, sok32, sok33, sok34, sok35, sok36, sok37, sok38, sok39, sok40, sok41, sok42, sok43, sok44, sok45, sok46, sok47, sok48, sok49, sok50, lay, PyData.canLay0, PyData.canLayAll0, PyData.depth, PyData.depthAll, mkDict, dspS, dspI, dspII, putS, ite_self]
  · have e5 := fun n h => c111 (P := P) (n := n) (h := h) (b := b) (op := "%") (a := a) (o := o) (.inr (.inr (.inr (.inr rfl)))) hs ho
    by_cases hm : o = -1
    · by_cases hl : lo < 0
      · have w0 : wrapS lo b (wholeS "%" b a o) = 0 := by
          subst hm
          have : wholeS "%" b a (-1) = 0 := by
            have q : quotS a (-1) = -a := by
              unfold quotS absS
              by_cases ha : a < 0 <;> simp [ha]
            unfold wholeS
            rw [if_neg (by decide), if_neg (by decide), if_neg (by decide), if_neg (by decide), if_pos rfl, q]
            omega
          rw [this]
          rcases K with ⟨_, rfl, rfl⟩ | ⟨_, rfl, rfl⟩ | ⟨_, rfl, rfl⟩ | ⟨_, rfl, rfl⟩ <;> decide +kernel
        have hl' : decide (lo < 0) = true := by simpa using hl
        rw [w0]
        subst hm
        simp (config := { decide := true }) [fn_118, overS, e1, e2, e3, e4, e5, hl, run, bindArgs, pick, exs, R_ex, R_ev, stepEx, stepEv, evs, evp, bopV, ifsAll, tst, tstN, tstA, srcOf, nextS, bindT, bindU, parts, initR, back, subV, attrV, findS, atL, idx0, idx1, idx2, idx3, idx4, idxm, short, lim, methB, mkind, sameKind, V.und, undL, truthy, isNone, bB, bI, binV, rd, cmpV, eqV, inV, natOf2, natOf3, natOf5, slcV, optNat, mkTup, allD, mkList, setS, setA, small, callB, anyEq, deq, deqs, intEq_dec, strEq_dec, sok0, sok1, sok2, sok3, sok4, sok5, sok6, sok7, sok8, sok9, sok10, sok11, sok12, sok13, sok14, sok15, sok16, sok17, sok18, sok19, sok20, sok21, sok22, sok23, sok24, sok25, sok26, sok27, sok28, sok29, sok30, sok31, sok32, sok33, sok34, sok35, sok36, sok37, sok38, sok39, sok40, sok41, sok42, sok43, sok44, sok45, sok46, sok47, sok48, sok49, sok50, lay, PyData.canLay0, PyData.canLayAll0, PyData.depth, PyData.depthAll, mkDict, dspS, dspI, dspII, putS, ite_self]
      · have hl' : decide (lo < 0) = false := by simpa using hl
        subst hm
        simp (config := { decide := true }) [fn_118, overS, e1, e2, e3, e5, hl, run, bindArgs, pick, exs, R_ex, R_ev, stepEx, stepEv, evs, evp, bopV, ifsAll, tst, tstN, tstA, srcOf, nextS, bindT, bindU, parts, initR, back, subV, attrV, findS, atL, idx0, idx1, idx2, idx3, idx4, idxm, short, lim, methB, mkind, sameKind, V.und, undL, truthy, isNone, bB, bI, binV, rd, cmpV, eqV, inV, natOf2, natOf3, natOf5, slcV, optNat, mkTup, allD, mkList, setS, setA, small, callB, anyEq, deq, deqs, intEq_dec, strEq_dec, sok0, sok1, sok2, sok3, sok4, sok5, sok6, sok7, sok8, sok9, sok10, sok11, sok12, sok13, sok14, sok15, sok16, sok17, sok18, sok19, sok20, sok21, sok22, sok23, sok24, sok25, sok26, sok27, sok28, sok29, sok30, sok31, sok32, sok33, sok34, sok35, sok36, sok37, sok38, sok39, sok40, sok41, sok42, sok43, sok44, sok45, sok46, sok47, sok48, sok49, sok50, lay, PyData.canLay0, PyData.canLayAll0, PyData.depth, PyData.depthAll, mkDict, dspS, dspI, dspII, putS, ite_self]
    · simp (config := { decide := true }) [fn_118, overS, e1, e2, e3, e5, hm, run, bindArgs, pick, exs, R_ex, R_ev, stepEx, stepEv, evs, evp, bopV, ifsAll, tst, tstN, tstA, srcOf, nextS, bindT, bindU, parts, initR, back, subV, attrV, findS, atL, idx0, idx1, idx2, idx3, idx4, idxm, short, lim, methB, mkind, sameKind, V.und, undL, truthy, isNone, bB, bI, binV, rd, cmpV, eqV, inV, natOf2, natOf3, natOf5, slcV, optNat, mkTup, allD, mkList, setS, setA, small, callB, anyEq, deq, deqs, intEq_dec, strEq_dec, sok0, sok1, sok2, sok3, sok4, sok5, sok6, sok7, sok8, sok9, sok10, sok11, sok12, sok13, sok14, sok15, sok16, sok17, sok18, sok19, sok20, sok21, sok22, sok23, sok24, sok25, sok26, sok27, sok28, sok29, sok30, sok31, sok32, sok33, sok34, sok35, sok36, sok37, sok38, sok39, sok40, sok41, sok42, sok43, sok44, sok45, sok46, sok47, sok48, sok49, sok50, lay, PyData.canLay0, PyData.canLayAll0, PyData.depth, PyData.depthAll, mkDict, dspS, dspI, dspII, putS, ite_self]
  · have e5 := fun n h => c125 (P := P) (n := n) (h := h) (op := "<<") (a := a) (o := o) K (.inl rfl)
    simp (config := { decide := true }) [fn_118, e5, run, bindArgs, pick, exs, R_ex, R_ev, stepEx, stepEv, evs, evp, bopV, ifsAll, tst, tstN, tstA, srcOf, nextS, bindT, bindU, parts, initR, back, subV, attrV, findS, atL, idx0, idx1, idx2, idx3, idx4, idxm, short, lim, methB, mkind, sameKind, V.und, undL, truthy, isNone, bB, bI, binV, rd, cmpV, eqV, inV, natOf2, natOf3, natOf5, slcV, optNat, mkTup, allD, mkList, setS, setA, small, callB, anyEq, deq, deqs, intEq_dec, strEq_dec, sok0, sok1, sok2, sok3, sok4, sok5, sok6, sok7, sok8, sok9, sok10, sok11, sok12, sok13, sok14, sok15, sok16, sok17, sok18, sok19, sok20, sok21, sok22, sok23, sok24, sok25, sok26, sok27, sok28, sok29, sok30, sok31, sok32, sok33, sok34, sok35, sok36, sok37, sok38, sok39, sok40, sok41, sok42, sok43, sok44, sok45, sok46, sok47, sok48, sok49, sok50, lay, PyData.canLay0, PyData.canLayAll0, PyData.depth, PyData.depthAll, mkDict, dspS, dspI, dspII, putS, ite_self]
  · have e5 := fun n h => c125 (P := P) (n := n) (h := h) (op := ">>") (a := a) (o := o) K (.inr rfl)
    simp (config := { decide := true }) [fn_118, e5, run, bindArgs, pick, exs, R_ex, R_ev, stepEx, stepEv, evs, evp, bopV, ifsAll, tst, tstN, tstA, srcOf, nextS, bindT, bindU, parts, initR, back, subV, attrV, findS, atL, idx0, idx1, idx2, idx3, idx4, idxm, short, lim, methB, mkind, sameKind, V.und, undL, truthy, isNone, bB, bI, binV, rd, cmpV, eqV, inV, natOf2, natOf3, natOf5, slcV, optNat, mkTup, allD, mkList, setS, setA, small, callB, anyEq, deq, deqs, intEq_dec, strEq_dec, sok0, sok1, sok2, sok3, sok4, sok5, sok6, sok7, sok8, sok9, sok10, sok11, sok12, sok13, sok14, sok15, sok16, sok17, sok18, sok19, sok20, sok21, sok22, sok23, sok24, sok25, sok26, sok27, sok28, sok29, sok30, sok31, sok32, sok33, sok34, sok35, sok36, sok37, sok38, sok39, sok40, sok41, sok42, sok43, sok44, sok45, sok46, sok47, sok48, sok49, sok50, lay, PyData.canLay0, PyData.canLayAll0, PyData.depth, PyData.depthAll, mkDict, dspS, dspI, dspII, putS, ite_self]
theorem c118z {op : Str} {a : Int} (hop : op = "/" ∨ op = "%") : (R (TT P) (n + 60)).call 118 [.d (.str k), .d (.str op), .d (.int a), .d (.int 0)] h = some (.d (.tuple [.none, .bool false]), h) := by
  rw [R_call _ _ _ _ _ (at_118 P)]
  have e5 := fun n h => c111z (P := P) (n := n) (h := h) (op := op) (a := a) hop
  rcases hop with rfl | rfl <;> simp (config := { decide := true }) [fn_118, e5, run, bindArgs, pick, exs, R_ex, R_ev, stepEx, stepEv, evs, evp, bopV, ifsAll, tst, tstN, tstA, srcOf, nextS, bindT, bindU, parts, initR, back, subV, attrV, findS, atL, idx0, idx1, idx2, idx3, idx4, idxm, short, lim, methB, mkind, sameKind, V.und, undL, truthy, isNone, bB, bI, binV, rd, cmpV, eqV, inV, natOf2, natOf3, natOf5, slcV, optNat, mkTup, allD, mkList, setS, setA, small, callB, anyEq, deq, deqs, intEq_dec, strEq_dec, sok0, sok1, sok2, sok3, sok4, sok5, sok6, sok7, sok8, sok9, sok10, sok11, sok12, sok13, sok14, sok15, sok16, sok17, sok18, sok19, sok20, sok21, sok22, sok23, sok24, sok25, sok26, sok27, sok28, sok29, sok30, sok31, sok32, sok33, sok34, sok35, sok36, sok37, sok38, sok39, sok40, sok41, sok42, sok43, sok44, sok45, sok46, sok47, sok48, sok49, sok50, lay, PyData.canLay0, PyData.canLayAll0, PyData.depth, PyData.depthAll, mkDict, dspS, dspI, dspII, putS, ite_self]
end Mine
end
section
open PySem PySem.W
set_option maxRecDepth 100000
set_option linter.unusedSimpArgs false
set_option linter.unusedVariables false
namespace Mine
variable {P : Params} {n : Nat} {h : List O} {k : Str} {lo : Int} {b : Nat}
def wideM : List (Str × PyData) := [("u8", .tuple [.int 0, .int 8]), ("i8", .tuple [.int (-128), .int 8]), ("i32", .tuple [.int (-2147483648), .int 32]), ("u64", .tuple [.int 0, .int 64])]
theorem back_s {h : List O} {x : List (Str × PyData)} : back h.length (some (.sdict x, h)) = some (.sdict x, h) := by
  unfold back; dsimp only; rw [List.take_length]; split <;> rfl
theorem c414 : (R (TT P) (n + 20)).call 414 [] h = some (.sdict wideM, h) :=
  Eq.trans (b := back h.length (some (.sdict wideM, h))) (by kernel_rfl) back_s
theorem wide_at (K : isKind k lo b) : findS k wideM = some (.tuple [.int lo, .int b]) := by
  rcases K with ⟨rfl, rfl, rfl⟩ | ⟨rfl, rfl, rfl⟩ | ⟨rfl, rfl, rfl⟩ | ⟨rfl, rfl, rfl⟩ <;> kernel_rfl
theorem kind_b (K : isKind k lo b) : (b : Int) ≠ 0 ∧ (0 : Int) ≤ b ∧ (b : Int) ≤ 200 := by
  rcases K with ⟨rfl, rfl, rfl⟩ | ⟨rfl, rfl, rfl⟩ | ⟨rfl, rfl, rfl⟩ | ⟨rfl, rfl, rfl⟩ <;> decide
theorem c449 {x : Int} (K : isKind k lo b) : (R (TT P) (n + 40)).call 449 [.d (.str k), .d (.int x)] h = some (.d (.int (wrapS lo b x)), h) := by
  rw [R_call _ _ _ _ _ (at_449 P)]
  have e1 := fun n h => c414 (P := P) (n := n) (h := h)
  have e2 := wide_at K
  obtain ⟨b0, b1, b2⟩ := kind_b K
  have b3 : b ≠ 0 := fun z => b0 (by rw [z]; rfl)
  have e3 : ((2 : Int) ^ b) ≠ 0 := Int.pow_ne_zero (by decide)
  have e4 : wrapS lo b x = (x - lo).fmod (2 ^ b) + lo := Int.add_comm _ _
  rw [e4]
  simp (config := { decide := true }) [fn_449, e1, e2, b0, b1, b2, b3, e3, run, bindArgs, pick, exs, R_ex, R_ev, stepEx, stepEv, evs, bindU, parts, back, subV, truthy, bI, binV, rd, V.und, small, intEq_dec]
theorem c442 {op : Str} {a o : Int} (K : isKind k lo b) (hop : isOp op) (hs : small o = true) (ho : o ≠ 0 ∨ (op ≠ "/" ∧ op ≠ "%")) :
    (R (TT P) (n + 60)).call 442 [.d (.str k), .d (.str op), .d (.int a), .d (.int o)] h = some (.d (.int (wholeS op b a o)), h) := by
  rw [R_call _ _ _ _ _ (at_442 P)]
  have e1 := fun n h => c414 (P := P) (n := n) (h := h)
  have e2 := wide_at K
  obtain ⟨b0, b1, b2⟩ := kind_b K
  have b3 : b ≠ 0 := fun z => b0 (by rw [z]; rfl)
  obtain ⟨p1, p2, p3, p4⟩ := places_ok K o
  unfold placesS at p1 p2
  unfold small at p1
  have p1' : (2 : Nat) ^ (o.fmod ↑b).toNat < 18446744073709551616 := by
    have z := Nat.blt_eq.mp p1
    rw [Int.natAbs_pow] at z
    exact z
  have s1 := small_abs hs
  have e3 : ∀ a : Int, (if decide (a < 0) = true then -a else a) = absS a := fun a => rfl
  have hs' := hs
  unfold small at hs s1
  have one : ∀ {q s : Int}, small s = true → (if (small s || small q) = true then some (V.d (.int (q * s))) else none) = some (V.d (.int (q * s))) := fun hq => by rw [hq]; simp
  rcases hop with rfl | rfl | rfl | rfl | rfl | rfl | rfl
  · simp (config := { decide := true }) [fn_442, wholeS, placesS, hs, p1', p2, p3, p4, e1, e2, b0, b3, run, bindArgs, pick, exs, R_ex, R_ev, stepEx, stepEv, evs, evp, bopV, ifsAll, tst, tstN, tstA, srcOf, nextS, bindT, bindU, parts, initR, back, subV, attrV, findS, atL, idx0, idx1, idx2, idx3, idx4, idxm, short, lim, methB, mkind, sameKind, V.und, undL, truthy, isNone, bB, bI, binV, rd, cmpV, eqV, inV, natOf2, natOf3, natOf5, slcV, optNat, mkTup, allD, mkList, setS, setA, small, callB, anyEq, deq, deqs, intEq_dec, strEq_dec, sok0, sok1, sok2, sok3, sok4, sok5, sok6, sok7, sok8, sok9, sok10, sok11, sok12, sok13, sok14, sok15, sok16, sok17, sok18, sok19, sok20, sok21, sok22, sok23, sok24, sok25, sok26, sok27, sok28, sok29, sok30, sok31, sok32, sok33, sok34, sok35, sok36, sok37, sok38, sok39, sok40, sok41, sok42, sok43, sok44, sok45, sok46, sok47, sok48, sok49, sok50, lay, PyData.canLay0, PyData.canLayAll0, PyData.depth, PyData.depthAll, mkDict, dspS, dspI, dspII, putS, ite_self]
  · simp (config := { decide := true }) [fn_442, wholeS, placesS, hs, p1', p2, p3, p4, e1, e2, b0, b3, run, bindArgs, pick, exs, R_ex, R_ev, stepEx, stepEv, evs, evp, bopV, ifsAll, tst, tstN, tstA, srcOf, nextS, bindT, bindU, parts, initR, back, subV, attrV, findS, atL, idx0, idx1, idx2, idx3, idx4, idxm, short, lim, methB, mkind, sameKind, V.und, undL, truthy, isNone, bB, bI, binV, rd, cmpV, eqV, inV, natOf2, natOf3, natOf5, slcV, optNat, mkTup, allD, mkList, setS, setA, small, callB, anyEq, deq, deqs, intEq_dec, strEq_dec, sok0, sok1, sok2, sok3, sok4, sok5, sok6, sok7, sok8, sok9, sok10, sok11, sok12, sok13, sok14, sok15, sok16, sok17, sok18, sok19, sok20, sok21, sok22, sok23, sok24, sok25, sok26, sok27, sok28, sok29, sok30, sok31, sok32, sok33, sok34, sok35, sok36, sok37, sok38, sok39, sok40, sok41, sok42, sok43, sok44, sok45, sok46, sok47, sok48, sok49, sok50, lay, PyData.canLay0, PyData.canLayAll0, PyData.depth, PyData.depthAll, mkDict, dspS, dspI, dspII, putS, ite_self]
  · simp (config := { decide := true }) [fn_442, wholeS, placesS, hs, p1', p2, p3, p4, e1, e2, b0, b3, run, bindArgs, pick, exs, R_ex, R_ev, stepEx, stepEv, evs, evp, bopV, ifsAll, tst, tstN, tstA, srcOf, nextS, bindT, bindU, parts, initR, back, subV, attrV, findS, atL, idx0, idx1, idx2, idx3, idx4, idxm, short, lim, methB, mkind, sameKind, V.und, undL, truthy, isNone, bB, bI, binV, rd, cmpV, eqV, inV, natOf2, natOf3, natOf5, slcV, optNat, mkTup, allD, mkList, setS, setA, small, callB, anyEq, deq, deqs, intEq_dec, strEq_dec, sok0, sok1, sok2, sok3, sok4, sok5, sok6, sok7, sok8, sok9, sok10, sok11, sok12, sok13, sok14, sok15, sok16, sok17, sok18, sok19, sok20, sok21, sok22, sok23, sok24, sok25, sok26, sok27, sok28, sok29, sok30, sok31, sok32, sok33, sok34, sok35, sok36, sok37, sok38, sok39, sok40, sok41, sok42, sok43, sok44, sok45, sok46, sok47, sok48, sok49, sok50, lay, PyData.canLay0, PyData.canLayAll0, PyData.depth, PyData.depthAll, mkDict, dspS, dspI, dspII, putS, ite_self]
  · have h0 : o ≠ 0 := by rcases ho with h | h; exact h; exact absurd rfl h.1
    have h1 := abs_ne h0
    unfold wholeS
    rw [if_neg (by decide), if_neg (by decide), if_neg (by decide), if_pos rfl]
    unfold quotS
    cases hq : (decide (a < 0) == decide (o < 0)) <;> simp (config := { decide := true }) [-decide_eq_true_eq, fn_442, h0, h1, s1, e3, hq, run, bindArgs, pick, exs, R_ex, R_ev, stepEx, stepEv, evs, evp, bopV, ifsAll, tst, tstN, tstA, srcOf, nextS, bindT, bindU, parts, initR, back, subV, attrV, findS, atL, idx0, idx1, idx2, idx3, idx4, idxm, short, lim, methB, mkind, sameKind, V.und, undL, truthy, isNone, bB, bI, binV, rd, cmpV, eqV, inV, natOf2, natOf3, natOf5, slcV, optNat, mkTup, allD, mkList, setS, setA, small, callB, anyEq, deq, deqs, intEq_dec, strEq_dec, sok0, sok1, sok2, sok3, sok4, sok5, sok6, sok7, sok8, sok9, sok10, sok11, sok12, sok13, sok14, sok15, sok16, sok17, sok18, sok19, sok20, sok21, sok22, sok23, sok24, sok25, sok26, sok27, sok28, sok29, sok30, sok31, sok32, sok33, sok34, sok35, sok36, sok37, sok38, sok39, sok40, sok41, sok42, sok43, sok44, sok45, sok46, sok47, sok48, sok49, sok50, lay, PyData.canLay0, PyData.canLayAll0, PyData.depth, PyData.depthAll, mkDict, dspS, dspI, dspII, putS, ite_self]
  · have h0 : o ≠ 0 := by rcases ho with h | h; exact h; exact absurd rfl h.2
    have h1 := abs_ne h0
    unfold wholeS
    rw [if_neg (by decide), if_neg (by decide), if_neg (by decide), if_neg (by decide), if_pos rfl]
    unfold quotS
    cases hq : (decide (a < 0) == decide (o < 0)) <;> simp (config := { decide := true }) [-decide_eq_true_eq, fn_442, h0, h1, s1, hs, e3, hq, run, bindArgs, pick, exs, R_ex, R_ev, stepEx, stepEv, evs, evp, bopV, ifsAll, tst, tstN, tstA, srcOf, nextS, bindT, bindU, parts, initR, back, subV, attrV, findS, atL, idx0, idx1, idx2, idx3, idx4, idxm, short, lim, methB, mkind, sameKind, V.und, undL, truthy, isNone, bB, bI, binV, rd, cmpV, eqV, inV, natOf2, natOf3, natOf5, slcV, optNat, mkTup, allD, mkList, setS, setA, small, callB, anyEq, deq, deqs, intEq_dec, strEq_dec, sok0, sok1, sok2, sok3, sok4, sok5, sok6, sok7, sok8, sok9, sok10, sok11, sok12, sok13, sok14, sok15, sok16, sok17, sok18, sok19, sok20, sok21, sok22, sok23, sok24, sok25, sok26, sok27, sok28, sok29, sok30, sok31, sok32, sok33, sok34, sok35, sok36, sok37, sok38, sok39, sok40, sok41, sok42, sok43, sok44, sok45, sok46, sok47, sok48, sok49, sok50, lay, PyData.canLay0, PyData.canLayAll0, PyData.depth, PyData.depthAll, mkDict, dspS, dspI, dspII, putS, ite_self]
  · simp (config := { decide := true }) [fn_442, wholeS, placesS, hs, p1', p2, p3, p4, e1, e2, b0, b3, run, bindArgs, pick, exs, R_ex, R_ev, stepEx, stepEv, evs, evp, bopV, ifsAll, tst, tstN, tstA, srcOf, nextS, bindT, bindU, parts, initR, back, subV, attrV, findS, atL, idx0, idx1, idx2, idx3, idx4, idxm, short, lim, methB, mkind, sameKind, V.und, undL, truthy, isNone, bB, bI, binV, rd, cmpV, eqV, inV, natOf2, natOf3, natOf5, slcV, optNat, mkTup, allD, mkList, setS, setA, small, callB, anyEq, deq, deqs, intEq_dec, strEq_dec, sok0, sok1, sok2, sok3, sok4, sok5, sok6, sok7, sok8, sok9, sok10, sok11, sok12, sok13, sok14, sok15, sok16, sok17, sok18, sok19, sok20, sok21, sok22, sok23, sok24, sok25, sok26, sok27, sok28, sok29, sok30, sok31, sok32, sok33, sok34, sok35, sok36, sok37, sok38, sok39, sok40, sok41, sok42, sok43, sok44, sok45, sok46, sok47, sok48, sok49, sok50, lay, PyData.canLay0, PyData.canLayAll0, PyData.depth, PyData.depthAll, mkDict, dspS, dspI, dspII, putS, ite_self]
  · simp (config := { decide := true }) [fn_442, wholeS, placesS, hs, p1', p2, p3, p4, e1, e2, b0, b3, run, bindArgs, pick, exs, R_ex, R_ev, stepEx, stepEv, evs, evp, bopV, ifsAll, tst, tstN, tstA, srcOf, nextS, bindT, bindU, parts, initR, back, subV, attrV, findS, atL, idx0, idx1, idx2, idx3, idx4, idxm, short, lim, methB, mkind, sameKind, V.und, undL, truthy, isNone, bB, bI, binV, rd, cmpV, eqV, inV, natOf2, natOf3, natOf5, slcV, optNat, mkTup, allD, mkList, setS, setA, small, callB, anyEq, deq, deqs, intEq_dec, strEq_dec, sok0, sok1, sok2, sok3, sok4, sok5, sok6, sok7, sok8, sok9, sok10, sok11, sok12, sok13, sok14, sok15, sok16, sok17, sok18, sok19, sok20, sok21, sok22, sok23, sok24, sok25, sok26, sok27, sok28, sok29, sok30, sok31, sok32, sok33, sok34, sok35, sok36, sok37, sok38, sok39, sok40, sok41, sok42, sok43, sok44, sok45, sok46, sok47, sok48, sok49, sok50, lay, PyData.canLay0, PyData.canLayAll0, PyData.depth, PyData.depthAll, mkDict, dspS, dspI, dspII, putS, ite_self]
end Mine
end
section
open PySem PySem.W
set_option maxRecDepth 100000
set_option linter.unusedSimpArgs false
set_option linter.unusedVariables false
namespace Mine
variable {P : Params} {n : Nat} {h : List O} {k : Str} {lo : Int} {b : Nat}
theorem fit_iff (lo : Int) (b : Nat) (x : Int) : decide (x = wrapS lo b x) = fitB lo b x := by
  have hp : (0 : Int) < 2 ^ b := Int.pow_pos (by decide)
  have e : (x - lo).fmod (2 ^ b) = (x - lo) % (2 ^ b) := Int.fmod_eq_emod_of_nonneg _ (by omega)
  unfold wrapS fitB
  rw [e]
  have h1 := Int.emod_nonneg (x - lo) (b := 2 ^ b) (by omega)
  have h2 := Int.emod_lt_of_pos (x - lo) hp
  by_cases hx : lo ≤ x ∧ x ≤ lo + 2 ^ b - 1
  · have e2 : (x - lo) % (2 ^ b) = x - lo := Int.emod_eq_of_lt (by omega) (by omega)
    rw [e2]
    simp [hx.1, hx.2]
    omega
  · have : ¬ (x = lo + (x - lo) % 2 ^ b) := fun z => hx ⟨by omega, by omega⟩
    rw [decide_eq_false this]
    symm
    rw [Bool.and_eq_false_iff]
    by_cases hy : lo ≤ x
    · right; exact decide_eq_false fun z => hx ⟨hy, z⟩
    · left; exact decide_eq_false hy
theorem c456 {op : Str} {a o : Int} (K : isKind k lo b) (hop : isOp op) :
    (R (TT P) (n + 60)).call 456 [.d (.str k), .d (.str op), .d (.int a), .d (.int o), .d (.int (wholeS op b a o))] h = some (.d (.bool (overS op lo b a o)), h) := by
  rw [R_call _ _ _ _ _ (at_456 P)]
  have e1 := fun n h => c414 (P := P) (n := n) (h := h)
  have e2 := wide_at K
  have e3 := fun n h x => c449 (P := P) (n := n) (h := h) (x := x) K
  have e4 := fit_iff lo b (wholeS op b a o)
  unfold overS
  rw [← e4]
  rcases hop with rfl | rfl | rfl | rfl | rfl | rfl | rfl
  · simp (config := { decide := true }) [fn_456, e1, e2, e3, run, bindArgs, pick, exs, R_ex, R_ev, stepEx, stepEv, evs, evp, bopV, ifsAll, tst, tstN, tstA, srcOf, nextS, bindT, bindU, parts, initR, back, subV, attrV, findS, atL, idx0, idx1, idx2, idx3, idx4, idxm, short, lim, methB, mkind, sameKind, V.und, undL, truthy, isNone, bB, bI, binV, rd, cmpV, eqV, inV, natOf2, natOf3, natOf5, slcV, optNat, mkTup, allD, mkList, setS, setA, small, callB, anyEq, deq, deqs, intEq_dec, strEq_dec, sok0, sok1, sok2, sok3, sok4, sok5, sok6, sok7, sok8, sok9, sok10, sok11, sok12, sok13, sok14, sok15, sok16, sok17, sok18, sok19, sok20, sok21, sok22, sok23, sok24, sok25, sok26, sok27, sok28, sok29, sok30, sok31, sok32, sok33, sok34, sok35, sok36, sok37, sok38, sok39, sok40, sok41, sok42, sok43, sok44, sok45, sok46, sok47, sok48, sok49, sok50, lay, PyData.canLay0, PyData.canLayAll0, PyData.depth, PyData.depthAll, mkDict, dspS, dspI, dspII, putS, ite_self]
  · simp (config := { decide := true }) [fn_456, e1, e2, e3, run, bindArgs, pick, exs, R_ex, R_ev, stepEx, stepEv, evs, evp, bopV, ifsAll, tst, tstN, tstA, srcOf, nextS, bindT, bindU, parts, initR, back, subV, attrV, findS, atL, idx0, idx1, idx2, idx3, idx4, idxm, short, lim, methB, mkind, sameKind, V.und, undL, truthy, isNone, bB, bI, binV, rd, cmpV, eqV, inV, natOf2, natOf3, natOf5, slcV, optNat, mkTup, allD, mkList, setS, setA, small, callB, anyEq, deq, deqs, intEq_dec, strEq_dec, sok0, sok1, sok2, sok3, sok4, sok5, sok6, sok7, sok8, sok9, sok10, sok11, sok12, sok13, sok14, sok15, sok16, sok17, sok18, sok19, sok20, sok21, sok22, sok23, sok24, sok25, sok26, sok27, sok28, sok29, sok30, sok31, sok32, sok33, sok34, sok35, sok36, sok37, sok38, sok39, sok40, sok41, sok42, sok43, sok44, sok45, sok46, sok47, sok48, sok49, sok50, lay, PyData.canLay0, PyData.canLayAll0, PyData.depth, PyData.depthAll, mkDict, dspS, dspI, dspII, putS, ite_self]
  · simp (config := { decide := true }) [fn_456, e1, e2, e3, run, bindArgs, pick, exs, R_ex, R_ev, stepEx, stepEv, evs, evp, bopV, ifsAll, tst, tstN, tstA, srcOf, nextS, bindT, bindU, parts, initR, back, subV, attrV, findS, atL, idx0, idx1, idx2, idx3, idx4, idxm, short, lim, methB, mkind, sameKind, V.und, undL, truthy, isNone, bB, bI, binV, rd, cmpV, eqV, inV, natOf2, natOf3, natOf5, slcV, optNat, mkTup, allD, mkList, setS, setA, small, callB, anyEq, deq, deqs, intEq_dec, strEq_dec, sok0, sok1, sok2, sok3, sok4, sok5, sok6, sok7, sok8, sok9, sok10, sok11, sok12, sok13, sok14, sok15, sok16, sok17, sok18, sok19, sok20, sok21, sok22, sok23, sok24, sok25, sok26, sok27, sok28, sok29, sok30, sok31, sok32, sok33, sok34, sok35, sok36, sok37, sok38, sok39, sok40, sok41, sok42, sok43, sok44, sok45, sok46, sok47, sok48, sok49, sok50, lay, PyData.canLay0, PyData.canLayAll0, PyData.depth, PyData.depthAll, mkDict, dspS, dspI, dspII, putS, ite_self]
  · simp (config := { decide := true }) [fn_456, e1, e2, e3, run, bindArgs, pick, exs, R_ex, R_ev, stepEx, stepEv, evs, evp, bopV, ifsAll, tst, tstN, tstA, srcOf, nextS, bindT, bindU, parts, initR, back, subV, attrV, findS, atL, idx0, idx1, idx2, idx3, idx4, idxm, short, lim, methB, mkind, sameKind, V.und, undL, truthy, isNone, bB, bI, binV, rd, cmpV, eqV, inV, natOf2, natOf3, natOf5, slcV, optNat, mkTup, allD, mkList, setS, setA, small, callB, anyEq, deq, deqs, intEq_dec, strEq_dec, sok0, sok1, sok2, sok3, sok4, sok5, sok6, sok7, sok8, sok9, sok10, sok11, sok12, sok13, sok14, sok15, sok16, sok17, sok18, sok19, sok20, sok21, sok22, sok23, sok24, sok25, sok26, sok27, sok28, sok29, sok30, sok31, sok32, sok33, sok34, sok35, sok36, sok37, sok38, sok39, sok40, sok41, sok42, sok43, sok44, sok45, sok46, sok47, sok48, sok49, sok50, lay, PyData.canLay0, PyData.canLayAll0, PyData.depth, PyData.depthAll, mkDict, dspS, dspI, dspII, putS, ite_self]
  · by_cases hl : lo < 0
    · by_cases hm : o = -1
      · simp (config := { decide := true }) [fn_456, e1, e2, e3, hl, hm, run, bindArgs, pick, exs, R_ex, R_ev, stepEx, stepEv, evs, evp, bopV, ifsAll, tst, tstN, tstA, srcOf, nextS, bindT, bindU, parts, initR, back, subV, attrV, findS, atL, idx0, idx1, idx2, idx3, idx4, idxm, short, lim, methB, mkind, sameKind, V.und, undL, truthy, isNone, bB, bI, binV, rd, cmpV, eqV, inV, natOf2, natOf3, natOf5, slcV, optNat, mkTup, allD, mkList, setS, setA, small, callB, anyEq, deq, deqs, intEq_dec, strEq_dec, sok0, sok1, sok2, sok3, sok4, sok5, sok6, sok7, sok8, sok9, sok10, sok11, sok12, sok13, sok14, sok15, sok16, sok17, sok18, sok19, sok20, sok21, sok22, sok23, sok24, sok25, sok26, sok27, sok28, sok29, sok30, sok31, sok32, sok33, sok34, sok35, sok36, sok37, sok38, sok39, sok40, sok41, sok42, sok43, sok44, sok45, sok46, sok47, sok48, sok49, sok50, lay, PyData.canLay0, PyData.canLayAll0, PyData.depth, PyData.depthAll, mkDict, dspS, dspI, dspII, putS, ite_self]
      · simp (config := { decide := true }) [fn_456, e1, e2, e3, hl, hm, run, bindArgs, pick, exs, R_ex, R_ev, stepEx, stepEv, evs, evp, bopV, ifsAll, tst, tstN, tstA, srcOf, nextS, bindT, bindU, parts, initR, back, subV, attrV, findS, atL, idx0, idx1, idx2, idx3, idx4, idxm, short, lim, methB, mkind, sameKind, V.und, undL, truthy, isNone, bB, bI, binV, rd, cmpV, eqV, inV, natOf2, natOf3, natOf5, slcV, optNat, mkTup, allD, mkList, setS, setA, small, callB, anyEq, deq, deqs, intEq_dec, strEq_dec, sok0, sok1, sok2, sok3, sok4, sok5, sok6, sok7, sok8, sok9, sok10, sok11, sok12, sok13, sok14, sok15, sok16, sok17, sok18, sok19, sok20, sok21, sok22, sok23, sok24, sok25, sok26, sok27, sok28, sok29, sok30, sok31, sok32, sok33, sok34, sok35, sok36, sok37, sok38, sok39, sok40, sok41, sok42, sok43, sok44, sok45, sok46, sok47, sok48, sok49, sok50, lay, PyData.canLay0, PyData.canLayAll0, PyData.depth, PyData.depthAll, mkDict, dspS, dspI, dspII, putS, ite_self]
    · simp (config := { decide := true }) [fn_456, e1, e2, e3, hl, run, bindArgs, pick, exs, R_ex, R_ev, stepEx, stepEv, evs, evp, bopV, ifsAll, tst, tstN, tstA, srcOf, nextS, bindT, bindU, parts, initR, back, subV, attrV, findS, atL, idx0, idx1, idx2, idx3, idx4, idxm, short, lim, methB, mkind, sameKind, V.und, undL, truthy, isNone, bB, bI, binV, rd, cmpV, eqV, inV, natOf2, natOf3, natOf5, slcV, optNat, mkTup, allD, mkList, setS, setA, small, callB, anyEq, deq, deqs, intEq_dec, strEq_dec, sok0, sok1, sok2, sok3, sok4, sok5, sok6, sok7, sok8, sok9, sok10, sok11, sok12, sok13, sok14, sok15, sok16, sok17, sok18, sok19, sok20, sok21, sok22, sok23, sok24, sok25, sok26, sok27, sok28, sok29, sok30, sok31, sok32, sok33, sok34, sok35, sok36, sok37, sok38, sok39, sok40, sok41, sok42, sok43, sok44, sok45, sok46, sok47, sok48, sok49, sok50, lay, PyData.canLay0, PyData.canLayAll0, PyData.depth, PyData.depthAll, mkDict, dspS, dspI, dspII, putS, ite_self]
  · cases hq : decide (0 ≤ o) <;> simp (config := { decide := true }) [fn_456, e1, e2, e3, hq, run, bindArgs, pick, exs, R_ex, R_ev, stepEx, stepEv, evs, evp, bopV, ifsAll, tst, tstN, tstA, srcOf, nextS, bindT, bindU, parts, initR, back, subV, attrV, findS, atL, idx0, idx1, idx2, idx3, idx4, idxm, short, lim, methB, mkind, sameKind, V.und, undL, truthy, isNone, bB, bI, binV, rd, cmpV, eqV, inV, natOf2, natOf3, natOf5, slcV, optNat, mkTup, allD, mkList, setS, setA, small, callB, anyEq, deq, deqs, intEq_dec, strEq_dec, sok0, sok1, sok2, sok3, sok4, sok5, sok6, sok7, sok8, sok9, sok10, sok11, sok12, sok13, sok14, sok15, sok16, sok17, sok18, sok19, sok20, sok21, sok22, sok23, sok24, sok25, sok26, sok27, sok28, sok29, sok30, sok31, sok32, sok33, sok34, sok35, sok36, sok37, sok38, sok39, sok40, sok41, sok42, sok43, sok44, sok45, sok46, sok47, sok48, sok49, sok50, lay, PyData.canLay0, PyData.canLayAll0, PyData.depth, PyData.depthAll, mkDict, dspS, dspI, dspII, putS, ite_self]
  · cases hq : decide (0 ≤ o) <;> simp (config := { decide := true }) [fn_456, e1, e2, e3, hq, run, bindArgs, pick, exs, R_ex, R_ev, stepEx, stepEv, evs, evp, bopV, ifsAll, tst, tstN, tstA, srcOf, nextS, bindT, bindU, parts, initR, back, subV, attrV, findS, atL, idx0, idx1, idx2, idx3, idx4, idxm, short, lim, methB, mkind, sameKind, V.und, undL, truthy, isNone, bB, bI, binV, rd, cmpV, eqV, inV, natOf2, natOf3, natOf5, slcV, optNat, mkTup, allD, mkList, setS, setA, small, callB, anyEq, deq, deqs, intEq_dec, strEq_dec, sok0, sok1, sok2, sok3, sok4, sok5, sok6, sok7, sok8, sok9, sok10, sok11, sok12, sok13, sok14, sok15, sok16, sok17, sok18, sok19, sok20, sok21, sok22, sok23, sok24, sok25, sok26, sok27, sok28, sok29, sok30, sok31, sok32, sok33, sok34, sok35, sok36, sok37, sok38, sok39, sok40, sok41, sok42, sok43, sok44, sok45, sok46, sok47, sok48, sok49, sok50, lay, PyData.canLay0, PyData.canLayAll0, PyData.depth, PyData.depthAll, mkDict, dspS, dspI, dspII, putS, ite_self]

/-- the numbers that are drawn from -/
def Src (h : List O) (s : Nat) : Prop := ∃ big mixed : Int, h[s]? = some (.list [.int big, .int mixed, .list []]) ∧ 0 ≤ mixed ∧ mixed < 2147483647
def srcL (big mixed : Int) : O := .list [.int big, .int mixed, .list []]
theorem c428 {s : Nat} {top : Int} (hs : Src h s) (h0 : 0 < top) (h1 : top ≤ 100) : ∃ r big mixed, 0 ≤ r ∧ r < top ∧ 0 ≤ mixed ∧ mixed < 2147483647 ∧
    ∀ n, (R (TT P) (n + 30)).call 428 [.loc s, .d (.int top)] h = some (.d (.int r), h.set s (srcL big mixed)) := by
  obtain ⟨big, mixed, hh, m0, m1⟩ := hs
  have t0 : top ≠ 0 := by omega
  have t1 : top.natAbs < 18446744073709551616 := by omega
  have hlen : s < h.length := (List.getElem?_eq_some_iff.mp hh).1
  have ts : ∀ x : O, List.take h.length (h.set s x) = h.set s x := fun x => List.take_of_length_le (by rw [List.length_set]; exact Nat.le_refl _)
  have gs : ∀ x : O, (h.set s x)[s]? = some x := fun x => by rw [List.getElem?_set]; simp [hlen]
  have fm : ∀ x : Int, 0 ≤ x.fmod top ∧ x.fmod top < top := fun x => ⟨by rw [Int.fmod_eq_emod_of_nonneg _ (by omega)]; exact Int.emod_nonneg _ t0, Int.fmod_lt_of_pos _ h0⟩
  by_cases hb : 0 < big
  · refine ⟨big.fmod top, big.fdiv top, mixed, (fm _).1, (fm _).2, m0, m1, fun n => ?_⟩
    rw [R_call _ _ _ _ _ (at_428 P)]
    simp (config := { decide := true }) [fn_428, srcL, hh, hb, t0, t1, ts, gs, run, bindArgs, pick, exs, R_ex, R_ev, stepEx, stepEv, evs, evp, bopV, ifsAll, tst, tstN, tstA, srcOf, nextS, bindT, bindU, parts, initR, back, subV, attrV, findS, atL, idx0, idx1, idx2, idx3, idx4, idxm, short, lim, methB, mkind, sameKind, V.und, undL, truthy, isNone, bB, bI, binV, rd, cmpV, eqV, inV, natOf2, natOf3, natOf5, slcV, optNat, mkTup, allD, mkList, setS, setA, small, callB, anyEq, deq, deqs, intEq_dec, strEq_dec, sok0, sok1, sok2, sok3, sok4, sok5, sok6, sok7, sok8, sok9, sok10, sok11, sok12, sok13, sok14, sok15, sok16, sok17, sok18, sok19, sok20, sok21, sok22, sok23, sok24, sok25, sok26, sok27, sok28, sok29, sok30, sok31, sok32, sok33, sok34, sok35, sok36, sok37, sok38, sok39, sok40, sok41, sok42, sok43, sok44, sok45, sok46, sok47, sok48, sok49, sok50, lay, PyData.canLay0, PyData.canLayAll0, PyData.depth, PyData.depthAll, mkDict, dspS, dspI, dspII, putS, ite_self]
  · let m2 := (mixed * 39373 + 7).fmod 2147483647
    have q1 : 0 ≤ m2 := by show 0 ≤ Int.fmod _ _; rw [Int.fmod_eq_emod_of_nonneg _ (by decide)]; exact Int.emod_nonneg _ (by decide)
    have q2 : m2 < 2147483647 := Int.fmod_lt_of_pos _ (by decide)
    have q3 : m2.natAbs < 18446744073709551616 := by omega
    refine ⟨(((m2 * m2).fmod 2147483629).fdiv 32).fmod top, big, m2, (fm _).1, (fm _).2, q1, q2, fun n => ?_⟩
    rw [R_call _ _ _ _ _ (at_428 P)]
    have q3' : ((mixed * 39373 + 7).fmod 2147483647).natAbs < 18446744073709551616 := q3
    simp (config := { decide := true }) [fn_428, srcL, hh, hb, t0, t1, q3', ts, gs, m2, run, bindArgs, pick, exs, R_ex, R_ev, stepEx, stepEv, evs, evp, bopV, ifsAll, tst, tstN, tstA, srcOf, nextS, bindT, bindU, parts, initR, back, subV, attrV, findS, atL, idx0, idx1, idx2, idx3, idx4, idxm, short, lim, methB, mkind, sameKind, V.und, undL, truthy, isNone, bB, bI, binV, rd, cmpV, eqV, inV, natOf2, natOf3, natOf5, slcV, optNat, mkTup, allD, mkList, setS, setA, small, callB, anyEq, deq, deqs, intEq_dec, strEq_dec, sok0, sok1, sok2, sok3, sok4, sok5, sok6, sok7, sok8, sok9, sok10, sok11, sok12, sok13, sok14, sok15, sok16, sok17, sok18, sok19, sok20, sok21, sok22, sok23, sok24, sok25, sok26, sok27, sok28, sok29, sok30, sok31, sok32, sok33, sok34, sok35, sok36, sok37, sok38, sok39, sok40, sok41, sok42, sok43, sok44, sok45, sok46, sok47, sok48, sok49, sok50, lay, PyData.canLay0, PyData.canLayAll0, PyData.depth, PyData.depthAll, mkDict, dspS, dspI, dspII, putS, ite_self]
end Mine
end
section
open PySem PySem.W
set_option maxRecDepth 100000
set_option linter.unusedSimpArgs false
set_option linter.unusedVariables false
namespace Mine
variable {P : Params} {n : Nat} {h : List O} {k : Str} {lo : Int} {b : Nat}
theorem idx_nat (m n : Nat) : idx (m : Int) n = if Nat.blt m n then some m else none := rfl
theorem Src.set {s : Nat} {big mixed : Int} (hs : Src h s) (a : 0 ≤ mixed) (c : mixed < 2147483647) : Src (h.set s (srcL big mixed)) s := by
  obtain ⟨b0, m0, hh, _⟩ := hs
  have hlen : s < h.length := (List.getElem?_eq_some_iff.mp hh).1
  exact ⟨big, mixed, by rw [List.getElem?_set]; simp [hlen, srcL], a, c⟩
theorem c435 {s : Nat} {xs : List PyData} (hs : Src h s) (h0 : 0 < xs.length) (h1 : xs.length ≤ 100) : ∃ x big mixed, x ∈ xs ∧ 0 ≤ mixed ∧ mixed < 2147483647 ∧
    ∀ n, (R (TT P) (n + 40)).call 435 [.loc s, .d (.list xs)] h = some (.d x, h.set s (srcL big mixed)) := by
  obtain ⟨r, big, mixed, r0, r1, m0, m1, e⟩ := c428 (P := P) (top := xs.length) hs (by omega) (by omega)
  obtain ⟨m, rfl⟩ := Int.eq_ofNat_of_zero_le r0
  have hm : m < xs.length := by omega
  have ts : ∀ x : O, List.take h.length (h.set s x) = h.set s x := fun x => List.take_of_length_le (by rw [List.length_set]; exact Nat.le_refl _)
  have hs' : xs.length ≤ 1000000 := by omega
  have hx : xs[m]? = some xs[m] := List.getElem?_eq_getElem hm
  refine ⟨xs[m], big, mixed, List.getElem_mem _, m0, m1, fun n => ?_⟩
  rw [R_call _ _ _ _ _ (at_435 P)]
  have e' : ∀ n, (R (TT P) (n + 30)).call 428 [V.loc s, V.d (PyData.int ↑xs.length)] h = some (V.d (PyData.int ↑m), h.set s (srcL big mixed)) := e
  simp (config := { decide := true }) [fn_435, e', hs', hm, ts, idx_nat, run, bindArgs, pick, exs, R_ex, R_ev, stepEx, stepEv, evs, evp, bopV, ifsAll, tst, tstN, tstA, srcOf, nextS, bindT, bindU, parts, initR, back, subV, attrV, findS, atL, idx0, idx1, idx2, idx3, idx4, idxm, short, lim, methB, mkind, sameKind, V.und, undL, truthy, isNone, bB, bI, binV, rd, cmpV, eqV, inV, natOf2, natOf3, natOf5, slcV, optNat, mkTup, allD, mkList, setS, setA, small, callB, anyEq, deq, deqs, intEq_dec, strEq_dec, sok0, sok1, sok2, sok3, sok4, sok5, sok6, sok7, sok8, sok9, sok10, sok11, sok12, sok13, sok14, sok15, sok16, sok17, sok18, sok19, sok20, sok21, sok22, sok23, sok24, sok25, sok26, sok27, sok28, sok29, sok30, sok31, sok32, sok33, sok34, sok35, sok36, sok37, sok38, sok39, sok40, sok41, sok42, sok43, sok44, sok45, sok46, sok47, sok48, sok49, sok50, lay, PyData.canLay0, PyData.canLayAll0, PyData.depth, PyData.depthAll, mkDict, dspS, dspI, dspII, putS, ite_self]
theorem c463 {s : Nat} (hs : Src h s) (K : isKind k lo b) : ∃ o big mixed, small o = true ∧ 0 ≤ mixed ∧ mixed < 2147483647 ∧
    ∀ n, (R (TT P) (n + 50)).call 463 [.loc s, .d (.str k)] h = some (.d (.int o), h.set s (srcL big mixed)) := by
  let xs : List PyData := [.int lo, .int (lo + 2 ^ b - 1), .int 0, .int 1, .int 2, .int 3, .int 7, .int (if lo < 0 then -1 else 5), .int (lo + 1), .int 100]
  obtain ⟨x, big, mixed, hx, m0, m1, e⟩ := c435 (P := P) (xs := xs) hs (by simp [xs]) (by simp [xs])
  have e1 := fun n h => c414 (P := P) (n := n) (h := h)
  have e2 := wide_at K
  have ts : ∀ x : O, List.take h.length (h.set s x) = h.set s x := fun x => List.take_of_length_le (by rw [List.length_set]; exact Nat.le_refl _)
  obtain ⟨b0, b1, b2⟩ := kind_b K
  have b3 : b ≤ 200 := by omega
  have fin : ∃ o, x = .int o ∧ small o = true := by
    simp only [xs, List.mem_cons, List.not_mem_nil, or_false] at hx
    rcases K with ⟨_, rfl, rfl⟩ | ⟨_, rfl, rfl⟩ | ⟨_, rfl, rfl⟩ | ⟨_, rfl, rfl⟩ <;>
    · rcases hx with rfl | rfl | rfl | rfl | rfl | rfl | rfl | rfl | rfl | rfl <;> exact ⟨_, rfl, by decide +kernel⟩
  obtain ⟨o, rfl, ho⟩ := fin
  refine ⟨o, big, mixed, ho, m0, m1, fun n => ?_⟩
  rw [R_call _ _ _ _ _ (at_463 P)]
  by_cases hl : lo < 0
  · have e' : ∀ n, (R (TT P) (n + 40)).call 435 [V.loc s, V.d (.list [.int lo, .int (lo + 2 ^ b - 1), .int 0, .int 1, .int 2, .int 3, .int 7, .int (-1), .int (lo + 1), .int 100])] h = some (V.d (PyData.int o), h.set s (srcL big mixed)) := by
      have := e; simp only [xs, if_pos hl] at this; exact this
    simp (config := { decide := true }) [fn_463, e', e1, e2, hl, ts, b2, b3, run, bindArgs, pick, exs, R_ex, R_ev, stepEx, stepEv, evs, evp, bopV, ifsAll, tst, tstN, tstA, srcOf, nextS, bindT, bindU, parts, initR, back, subV, attrV, findS, atL, idx0, idx1, idx2, idx3, idx4, idxm, short, lim, methB, mkind, sameKind, V.und, undL, truthy, isNone, bB, bI, binV, rd, cmpV, eqV, inV, natOf2, natOf3, natOf5, slcV, optNat, mkTup, allD, mkList, setS, setA, small, callB, anyEq, deq, deqs, intEq_dec, strEq_dec, sok0, sok1, sok2, sok3, sok4, sok5, sok6, sok7, sok8, sok9, sok10, sok11, sok12, sok13, sok14, sok15, sok16, sok17, sok18, sok19, sok20, sok21, sok22, sok23, sok24, sok25, sok26, sok27, sok28, sok29, sok30, sok31, sok32, sok33, sok34, sok35, sok36, sok37, sok38, sok39, sok40, sok41, sok42, sok43, sok44, sok45, sok46, sok47, sok48, sok49, sok50, lay, PyData.canLay0, PyData.canLayAll0, PyData.depth, PyData.depthAll, mkDict, dspS, dspI, dspII, putS, ite_self]
  · have e' : ∀ n, (R (TT P) (n + 40)).call 435 [V.loc s, V.d (.list [.int lo, .int (lo + 2 ^ b - 1), .int 0, .int 1, .int 2, .int 3, .int 7, .int 5, .int (lo + 1), .int 100])] h = some (V.d (PyData.int o), h.set s (srcL big mixed)) := by
      have := e; simp only [xs, if_neg hl] at this; exact this
    simp (config := { decide := true }) [fn_463, e', e1, e2, hl, ts, b2, b3, run, bindArgs, pick, exs, R_ex, R_ev, stepEx, stepEv, evs, evp, bopV, ifsAll, tst, tstN, tstA, srcOf, nextS, bindT, bindU, parts, initR, back, subV, attrV, findS, atL, idx0, idx1, idx2, idx3, idx4, idxm, short, lim, methB, mkind, sameKind, V.und, undL, truthy, isNone, bB, bI, binV, rd, cmpV, eqV, inV, natOf2, natOf3, natOf5, slcV, optNat, mkTup, allD, mkList, setS, setA, small, callB, anyEq, deq, deqs, intEq_dec, strEq_dec, sok0, sok1, sok2, sok3, sok4, sok5, sok6, sok7, sok8, sok9, sok10, sok11, sok12, sok13, sok14, sok15, sok16, sok17, sok18, sok19, sok20, sok21, sok22, sok23, sok24, sok25, sok26, sok27, sok28, sok29, sok30, sok31, sok32, sok33, sok34, sok35, sok36, sok37, sok38, sok39, sok40, sok41, sok42, sok43, sok44, sok45, sok46, sok47, sok48, sok49, sok50, lay, PyData.canLay0, PyData.canLayAll0, PyData.depth, PyData.depthAll, mkDict, dspS, dspI, dspII, putS, ite_self]
end Mine
end
section
open PySem PySem.W
set_option maxRecDepth 100000
set_option linter.unusedSimpArgs false
set_option linter.unusedVariables false
namespace Mine
variable {P : Params} {n : Nat} {h : List O} {k : Str} {lo : Int} {b : Nat}
theorem lay_ints1 (ns : List Int) : PyData.canLayAll0 (ns.map .int) = true := by
  induction ns with
  | nil => rfl
  | cons x ns ih => rw [List.map_cons]; unfold PyData.canLayAll0; rw [ih]; rfl
theorem lay_ints2 (ns : List Int) : PyData.depthAll (ns.map .int) = 0 := by
  induction ns with
  | nil => rfl
  | cons x ns ih => rw [List.map_cons]; unfold PyData.depthAll; rw [ih]; rfl
def poolBig (c : Int) : Int := if decide (-1 - c > c) then -1 - c else c
def poolMixed (c : Int) : Int := (((poolBig c).fmod 2147483629 + 17) * 48271).fmod 2147483647
theorem c421 {ns : List Int} (hl : ns.length ≤ 63) : ∃ big mixed, 0 ≤ mixed ∧ mixed < 2147483647 ∧
    ∀ n, (R (TT P) (n + 30)).call 421 [.d (.list (ns.map .int)), .d (.list [])] h = some (.loc h.length, h ++ [srcL big mixed]) := by
  have fm : ∀ x : Int, 0 ≤ x.fmod 2147483647 ∧ x.fmod 2147483647 < 2147483647 := fun x => ⟨by rw [Int.fmod_eq_emod_of_nonneg _ (by decide)]; exact Int.emod_nonneg _ (by decide), Int.fmod_lt_of_pos _ (by decide)⟩
  have sm : ∀ q : Bool, (if q = true then (1 : Int) else 0).natAbs < 18446744073709551616 := fun q => by cases q <;> decide
  let c : Int := ns.headD 0
  refine ⟨poolBig c * (if decide (1000000000000000000 ≤ poolBig c) = true then 1 else 0), poolMixed c, (fm _).1, (fm _).2, fun n => ?_⟩
  rw [R_call _ _ _ _ _ (at_421 P)]
  cases ns with
  | nil =>
    have hc : c = 0 := rfl
    rw [hc]
    simp (config := { decide := true }) [fn_421, srcL, poolBig, poolMixed, run, bindArgs, pick, exs, R_ex, R_ev, stepEx, stepEv, evs, evp, bopV, ifsAll, tst, tstN, tstA, srcOf, nextS, bindT, bindU, parts, initR, back, subV, attrV, findS, atL, idx0, idx1, idx2, idx3, idx4, idxm, short, lim, methB, mkind, sameKind, V.und, undL, truthy, isNone, bB, bI, binV, rd, cmpV, eqV, inV, natOf2, natOf3, natOf5, slcV, optNat, mkTup, allD, mkList, setS, setA, small, callB, anyEq, deq, deqs, intEq_dec, strEq_dec, sok0, sok1, sok2, sok3, sok4, sok5, sok6, sok7, sok8, sok9, sok10, sok11, sok12, sok13, sok14, sok15, sok16, sok17, sok18, sok19, sok20, sok21, sok22, sok23, sok24, sok25, sok26, sok27, sok28, sok29, sok30, sok31, sok32, sok33, sok34, sok35, sok36, sok37, sok38, sok39, sok40, sok41, sok42, sok43, sok44, sok45, sok46, sok47, sok48, sok49, sok50, lay, PyData.canLay0, PyData.canLayAll0, PyData.depth, PyData.depthAll, mkDict, dspS, dspI, dspII, putS, ite_self]
  | cons x ns =>
    have hc : c = x := rfl
    have hl' : ns.length + 1 ≤ 1000000 := by simp at hl; omega
    have hm : ∀ y : Int, (if decide (-1 - x > x) then -1 - x else x) = poolBig x := fun _ => rfl
    have l1 := lay_ints1 ns
    have l2 := lay_ints2 ns
    rw [hc]
    by_cases q1 : x < -1 - x <;> by_cases q2 : 1000000000000000000 ≤ (if x < -1 - x then -1 - x else x) <;> simp only [q1, if_true, if_false] at q2 <;>
    simp (config := { decide := true }) [-Int.reduceNeg, fn_421, srcL, poolBig, poolMixed, q1, q2, l1, l2, hl', sm, run, bindArgs, pick, exs, R_ex, R_ev, stepEx, stepEv, evs, evp, bopV, ifsAll, tst, tstN, tstA, srcOf, nextS, bindT, bindU, parts, initR, back, subV, attrV, findS, atL, idx0, idx1, idx2, idx3, idx4, idxm, short, lim, methB, mkind, sameKind, V.und, undL, truthy, isNone, bB, bI, binV, rd, cmpV, eqV, inV, natOf2, natOf3, natOf5, slcV, optNat, mkTup, allD, mkList, setS, setA, small, callB, anyEq, deq, deqs, intEq_dec, strEq_dec, sok0, sok1, sok2, sok3, sok4, sok5, sok6, sok7, sok8, sok9, sok10, sok11, sok12, sok13, sok14, sok15, sok16, sok17, sok18, sok19, sok20, sok21, sok22, sok23, sok24, sok25, sok26, sok27, sok28, sok29, sok30, sok31, sok32, sok33, sok34, sok35, sok36, sok37, sok38, sok39, sok40, sok41, sok42, sok43, sok44, sok45, sok46, sok47, sok48, sok49, sok50, lay, PyData.canLay0, PyData.canLayAll0, PyData.depth, PyData.depthAll, mkDict, dspS, dspI, dspII, putS, ite_self]
end Mine
end
section
open PySem PySem.W
set_option maxRecDepth 100000
set_option linter.unusedSimpArgs false
set_option linter.unusedVariables false
namespace Mine
variable {P : Params} {n : Nat} {h : List O} {k : Str} {lo : Int} {b : Nat}
/-! the data of the bodies -/
abbrev tI (k : Str) : PyData := .tuple [.str "int", .str k]
abbrev tB : PyData := .tuple [.str "bool"]
abbrev cI (k : Str) (v : Int) : PyData := .tuple [.str "const", tI k, .int v]
abbrev cB (v : Bool) : PyData := .tuple [.str "const", tB, .bool v]
abbrev pl (l : Int) : PyData := .tuple [.int l, .tuple []]
abbrev fld (i : Int) : PyData := .tuple [.str "field", .int i]
abbrev opX : PyData := .tuple [.str "copy", pl 1]
abbrev opC3 : PyData := .tuple [.str "copy", pl 3]
abbrev opC2 : PyData := .tuple [.str "copy", .tuple [.int 2, .tuple [fld 1]]]
abbrev opM2 : PyData := .tuple [.str "move", .tuple [.int 2, .tuple [fld 0]]]
abbrev sAsg (l : Int) (rv : PyData) : PyData := .tuple [.str "assign", pl l, rv]
abbrev rUse (o : PyData) : PyData := .tuple [.str "use", o]
abbrev rBin (op : Str) (a b : PyData) : PyData := .tuple [.str "binary", .str op, a, b]
abbrev rChk (op : Str) (a b : PyData) : PyData := .tuple [.str "checked", .str op, a, b]
abbrev rUn (op : Str) (a : PyData) : PyData := .tuple [.str "unary", .str op, a]
abbrev rCast (a : PyData) : PyData := .tuple [.str "cast", a, tI "i32"]
abbrev sPrint (o : PyData) : PyData := .tuple [.str "print", o]

def cmpS (op : Str) (v : Int) : Bool := if op = "<" then decide (v < 3) else if op = "<=" then decide (v ≤ 3) else if op = ">" then decide (v > 3) else if op = ">=" then decide (v ≥ 3) else !decide (v = 3)
def isCmp (op : Str) : Prop := op = "<" ∨ op = "<=" ∨ op = ">" ∨ op = ">=" ∨ op = "!="
/-- what a turn ends with -/
inductive More (k : Str) (lo : Int) (b : Nat) (v : Int) : List PyData → List PyData → Prop
  | cast : More k lo b v [sAsg 4 (rCast opX)] [sAsg 4 (rUse (cI "i32" (wrapS (-2147483648) 32 v)))]
  | flip : More k lo b v [sAsg 0 (rUn "!" opX)] [sAsg 0 (rUse (cI k (wrapS lo b (-1 - v))))]
  | neg : More k lo b v [sAsg 0 (rUn "-" opX)] [sAsg 0 (rUse (cI k (wrapS lo b (-v))))]
  | cmp (op : Str) : isCmp op → More k lo b v [sAsg 3 (rBin op opX (cI k 3))] [sAsg 3 (rUse (cB (cmpS op v)))]
  | none : More k lo b v [] []
theorem c475 {s : Nat} {v : Int} (hs : Src h s) (K : isKind k lo b) : ∃ more told big mixed, More k lo b v more told ∧ 0 ≤ mixed ∧ mixed < 2147483647 ∧
    ∀ n, (R (TT P) (n + 60)).call 475 [.loc s, .d (.str k), .d (.int v)] h = some (.d (.tuple [.list more, .list told]), h.set s (srcL big mixed)) := by
  obtain ⟨r, big, mixed, r0, r1, m0, m1, e⟩ := c428 (P := P) (top := 4) hs (by decide) (by decide)
  have ts : ∀ x : O, List.take h.length (h.set s x) = h.set s x := fun x => List.take_of_length_le (by rw [List.length_set]; exact Nat.le_refl _)
  have hs2 : Src (h.set s (srcL big mixed)) s := hs.set m0 m1
  have e3 := fun n h x => c449 (P := P) (n := n) (h := h) (x := x) K
  have K3 : isKind "i32" (-2147483648) 32 := .inr (.inr (.inl ⟨rfl, rfl, rfl⟩))
  have e4 := fun n h x => c449 (P := P) (n := n) (h := h) (x := x) K3
  have hr : r = 0 ∨ r = 1 ∨ r = 2 ∨ r = 3 := by omega
  rcases hr with rfl | rfl | rfl | rfl
  · refine ⟨_, _, big, mixed, .cast, m0, m1, fun n => ?_⟩
    rw [R_call _ _ _ _ _ (at_475 P)]
    simp (config := { decide := true }) [fn_475, e, e4, ts, run, bindArgs, pick, exs, R_ex, R_ev, stepEx, stepEv, evs, evp, bopV, ifsAll, tst, tstN, tstA, srcOf, nextS, bindT, bindU, parts, initR, back, subV, attrV, findS, atL, idx0, idx1, idx2, idx3, idx4, idxm, short, lim, methB, mkind, sameKind, V.und, undL, truthy, isNone, bB, bI, binV, rd, cmpV, eqV, inV, natOf2, natOf3, natOf5, slcV, optNat, mkTup, allD, mkList, setS, setA, small, callB, anyEq, deq, deqs, intEq_dec, strEq_dec, sok0, sok1, sok2, sok3, sok4, sok5, sok6, sok7, sok8, sok9, sok10, sok11, sok12, sok13, sok14, sok15, sok16, sok17, sok18, sok19, sok20, sok21, sok22, sok23, sok24, sok25, sok26, sok27, sok28, sok29, sok30, sok31, sok32, sok33, sok34, sok35, sok36, sok37, sok38, sok39, sok40, sok41, sok42, sok43, sok44, sok45, sok46, sok47, sok48, sok49, sok50, lay, PyData.canLay0, PyData.canLayAll0, PyData.depth, PyData.depthAll, mkDict, dspS, dspI, dspII, putS, ite_self]
  · obtain ⟨x, big', mixed', hx, m0', m1', e'⟩ := c435 (P := P) (xs := [.str "!", .str "-"]) hs2 (by simp) (by simp)
    have hx' : x = .str "!" ∨ x = .str "-" := by simpa using hx
    have ts' : ∀ x y : O, List.take h.length ((h.set s x).set s y) = (h.set s x).set s y := fun x y => List.take_of_length_le (by rw [List.length_set, List.length_set]; exact Nat.le_refl _)
    rcases hx' with rfl | rfl
    · refine ⟨_, _, big', mixed', .flip, m0', m1', fun n => ?_⟩
      rw [R_call _ _ _ _ _ (at_475 P)]
      simp (config := { decide := true }) [fn_475, e, e', e3, ts, run, bindArgs, pick, exs, R_ex, R_ev, stepEx, stepEv, evs, evp, bopV, ifsAll, tst, tstN, tstA, srcOf, nextS, bindT, bindU, parts, initR, back, subV, attrV, findS, atL, idx0, idx1, idx2, idx3, idx4, idxm, short, lim, methB, mkind, sameKind, V.und, undL, truthy, isNone, bB, bI, binV, rd, cmpV, eqV, inV, natOf2, natOf3, natOf5, slcV, optNat, mkTup, allD, mkList, setS, setA, small, callB, anyEq, deq, deqs, intEq_dec, strEq_dec, sok0, sok1, sok2, sok3, sok4, sok5, sok6, sok7, sok8, sok9, sok10, sok11, sok12, sok13, sok14, sok15, sok16, sok17, sok18, sok19, sok20, sok21, sok22, sok23, sok24, sok25, sok26, sok27, sok28, sok29, sok30, sok31, sok32, sok33, sok34, sok35, sok36, sok37, sok38, sok39, sok40, sok41, sok42, sok43, sok44, sok45, sok46, sok47, sok48, sok49, sok50, lay, PyData.canLay0, PyData.canLayAll0, PyData.depth, PyData.depthAll, mkDict, dspS, dspI, dspII, putS, ite_self]
    · refine ⟨_, _, big', mixed', .neg, m0', m1', fun n => ?_⟩
      rw [R_call _ _ _ _ _ (at_475 P)]
      simp (config := { decide := true }) [fn_475, e, e', e3, ts, run, bindArgs, pick, exs, R_ex, R_ev, stepEx, stepEv, evs, evp, bopV, ifsAll, tst, tstN, tstA, srcOf, nextS, bindT, bindU, parts, initR, back, subV, attrV, findS, atL, idx0, idx1, idx2, idx3, idx4, idxm, short, lim, methB, mkind, sameKind, V.und, undL, truthy, isNone, bB, bI, binV, rd, cmpV, eqV, inV, natOf2, natOf3, natOf5, slcV, optNat, mkTup, allD, mkList, setS, setA, small, callB, anyEq, deq, deqs, intEq_dec, strEq_dec, sok0, sok1, sok2, sok3, sok4, sok5, sok6, sok7, sok8, sok9, sok10, sok11, sok12, sok13, sok14, sok15, sok16, sok17, sok18, sok19, sok20, sok21, sok22, sok23, sok24, sok25, sok26, sok27, sok28, sok29, sok30, sok31, sok32, sok33, sok34, sok35, sok36, sok37, sok38, sok39, sok40, sok41, sok42, sok43, sok44, sok45, sok46, sok47, sok48, sok49, sok50, lay, PyData.canLay0, PyData.canLayAll0, PyData.depth, PyData.depthAll, mkDict, dspS, dspI, dspII, putS, ite_self]
  · obtain ⟨x, big', mixed', hx, m0', m1', e'⟩ := c435 (P := P) (xs := [.str "<", .str "<=", .str ">", .str ">=", .str "!="]) hs2 (by simp) (by simp)
    have hx' : ∃ op, x = .str op ∧ isCmp op := by
      simp only [List.mem_cons, List.not_mem_nil, or_false] at hx
      rcases hx with rfl | rfl | rfl | rfl | rfl
      · exact ⟨_, rfl, .inl rfl⟩
      · exact ⟨_, rfl, .inr (.inl rfl)⟩
      · exact ⟨_, rfl, .inr (.inr (.inl rfl))⟩
      · exact ⟨_, rfl, .inr (.inr (.inr (.inl rfl)))⟩
      · exact ⟨_, rfl, .inr (.inr (.inr (.inr rfl)))⟩
    obtain ⟨op, rfl, hop⟩ := hx'
    refine ⟨_, _, big', mixed', .cmp op hop, m0', m1', fun n => ?_⟩
    rw [R_call _ _ _ _ _ (at_475 P)]
    rcases hop with rfl | rfl | rfl | rfl | rfl <;> simp (config := { decide := true }) [fn_475, cmpS, e, e', ts, run, bindArgs, pick, exs, R_ex, R_ev, stepEx, stepEv, evs, evp, bopV, ifsAll, tst, tstN, tstA, srcOf, nextS, bindT, bindU, parts, initR, back, subV, attrV, findS, atL, idx0, idx1, idx2, idx3, idx4, idxm, short, lim, methB, mkind, sameKind, V.und, undL, truthy, isNone, bB, bI, binV, rd, cmpV, eqV, inV, natOf2, natOf3, natOf5, slcV, optNat, mkTup, allD, mkList, setS, setA, small, callB, anyEq, deq, deqs, intEq_dec, strEq_dec, sok0, sok1, sok2, sok3, sok4, sok5, sok6, sok7, sok8, sok9, sok10, sok11, sok12, sok13, sok14, sok15, sok16, sok17, sok18, sok19, sok20, sok21, sok22, sok23, sok24, sok25, sok26, sok27, sok28, sok29, sok30, sok31, sok32, sok33, sok34, sok35, sok36, sok37, sok38, sok39, sok40, sok41, sok42, sok43, sok44, sok45, sok46, sok47, sok48, sok49, sok50, lay, PyData.canLay0, PyData.canLayAll0, PyData.depth, PyData.depthAll, mkDict, dspS, dspI, dspII, putS, ite_self]
  · refine ⟨_, _, big, mixed, .none, m0, m1, fun n => ?_⟩
    rw [R_call _ _ _ _ _ (at_475 P)]
    simp (config := { decide := true }) [fn_475, e, ts, run, bindArgs, pick, exs, R_ex, R_ev, stepEx, stepEv, evs, evp, bopV, ifsAll, tst, tstN, tstA, srcOf, nextS, bindT, bindU, parts, initR, back, subV, attrV, findS, atL, idx0, idx1, idx2, idx3, idx4, idxm, short, lim, methB, mkind, sameKind, V.und, undL, truthy, isNone, bB, bI, binV, rd, cmpV, eqV, inV, natOf2, natOf3, natOf5, slcV, optNat, mkTup, allD, mkList, setS, setA, small, callB, anyEq, deq, deqs, intEq_dec, strEq_dec, sok0, sok1, sok2, sok3, sok4, sok5, sok6, sok7, sok8, sok9, sok10, sok11, sok12, sok13, sok14, sok15, sok16, sok17, sok18, sok19, sok20, sok21, sok22, sok23, sok24, sok25, sok26, sok27, sok28, sok29, sok30, sok31, sok32, sok33, sok34, sok35, sok36, sok37, sok38, sok39, sok40, sok41, sok42, sok43, sok44, sok45, sok46, sok47, sok48, sok49, sok50, lay, PyData.canLay0, PyData.canLayAll0, PyData.depth, PyData.depthAll, mkDict, dspS, dspI, dspII, putS, ite_self]
end Mine
end
section
open PySem PySem.W
set_option maxRecDepth 100000
set_option linter.unusedSimpArgs false
set_option linter.unusedVariables false
namespace Mine
variable {P : Params} {n : Nat} {h : List O} {k : Str} {lo : Int} {b : Nat}
structure FactsAt (h : List O) (f kf : Nat) (m : List (Int × PyData)) : Prop where
  a : h[f]? = some (.attrs 273 [("known", .loc kf)])
  b : h[kf]? = some (.idict m)
abbrev locT (t : PyData) : PyData := .tuple [t, .bool true, .none]
abbrev localsL (k : Str) : List PyData := [locT (tI k), locT (tI k), locT (.tuple [.str "tuple", .tuple [tI k, tB]]), locT tB, locT (tI "i32")]
abbrev folM : List (Int × PyData) := [(0, .bool true), (1, .bool true), (2, .bool true), (3, .bool true), (4, .bool true)]
structure ConsAt (h : List O) (c bo bl be fo : Nat) (k : Str) : Prop where
  a : h[c]? = some (.attrs 396 [("body", .loc bo), ("followed", .loc fo), ("begins", .loc be)])
  b : h[bo]? = some (.attrs 193 [("name", .d (.str "f")), ("arg_count", .d (.int 0)), ("locals", .d (.list (localsL k))), ("blocks", .loc bl), ("spots", .idict [])])
  f : h[fo]? = some (.idict folM)
def orNone (o : Option PyData) : V := match o with | some x => .d x | none => .d .none
theorem cls273 : findN 273 (TT P).clss = some ⟨249, [("__init__", 249), ("at_place", 256), ("at_operand", 263), ("forget", 270)], []⟩ := by kernel_rfl
variable {f kf : Nat} {m : List (Int × PyData)}
theorem c256a {l : Int} (F : FactsAt h f kf m) : (R (TT P) (n + 20)).call 256 [.loc f, .d (pl l)] h = some (orNone (findI l m), h) := by
  rw [R_call _ _ _ _ _ (at_256 P)]
  obtain ⟨f1, f2⟩ := F
  unfold orNone
  cases q : findI l m <;> simp (config := { decide := true }) [fn_256, f1, f2, q, forS, cutTo, run, bindArgs, pick, exs, R_ex, R_ev, stepEx, stepEv, evs, evp, bopV, ifsAll, tst, tstN, tstA, srcOf, nextS, bindT, bindU, parts, initR, back, subV, attrV, findS, atL, idx0, idx1, idx2, idx3, idx4, idxm, short, lim, methB, mkind, sameKind, V.und, undL, truthy, isNone, bB, bI, binV, rd, cmpV, eqV, inV, natOf2, natOf3, natOf5, slcV, optNat, mkTup, allD, mkList, setS, setA, small, callB, anyEq, deq, deqs, intEq_dec, strEq_dec, sok0, sok1, sok2, sok3, sok4, sok5, sok6, sok7, sok8, sok9, sok10, sok11, sok12, sok13, sok14, sok15, sok16, sok17, sok18, sok19, sok20, sok21, sok22, sok23, sok24, sok25, sok26, sok27, sok28, sok29, sok30, sok31, sok32, sok33, sok34, sok35, sok36, sok37, sok38, sok39, sok40, sok41, sok42, sok43, sok44, sok45, sok46, sok47, sok48, sok49, sok50, lay, PyData.canLay0, PyData.canLayAll0, PyData.depth, PyData.depthAll, mkDict, dspS, dspI, dspII, putS, ite_self]
theorem c256b {i : Int} {x y : PyData} (F : FactsAt h f kf m) (hm : findI 2 m = some (.tuple [x, y])) (hi : i = 0 ∨ i = 1) : (R (TT P) (n + 20)).call 256 [.loc f, .d (.tuple [.int 2, .tuple [fld i]])] h = some (.d (if i = 0 then x else y), h) := by
  rw [R_call _ _ _ _ _ (at_256 P)]
  obtain ⟨f1, f2⟩ := F
  rcases hi with rfl | rfl <;> simp (config := { decide := true }) [fn_256, f1, f2, hm, forS, cutTo, run, bindArgs, pick, exs, R_ex, R_ev, stepEx, stepEv, evs, evp, bopV, ifsAll, tst, tstN, tstA, srcOf, nextS, bindT, bindU, parts, initR, back, subV, attrV, findS, atL, idx0, idx1, idx2, idx3, idx4, idxm, short, lim, methB, mkind, sameKind, V.und, undL, truthy, isNone, bB, bI, binV, rd, cmpV, eqV, inV, natOf2, natOf3, natOf5, slcV, optNat, mkTup, allD, mkList, setS, setA, small, callB, anyEq, deq, deqs, intEq_dec, strEq_dec, sok0, sok1, sok2, sok3, sok4, sok5, sok6, sok7, sok8, sok9, sok10, sok11, sok12, sok13, sok14, sok15, sok16, sok17, sok18, sok19, sok20, sok21, sok22, sok23, sok24, sok25, sok26, sok27, sok28, sok29, sok30, sok31, sok32, sok33, sok34, sok35, sok36, sok37, sok38, sok39, sok40, sok41, sok42, sok43, sok44, sok45, sok46, sok47, sok48, sok49, sok50, lay, PyData.canLay0, PyData.canLayAll0, PyData.depth, PyData.depthAll, mkDict, dspS, dspI, dspII, putS, ite_self]
theorem c256c {i : Int} (F : FactsAt h f kf m) (hm : findI 2 m = none) (hi : i = 0 ∨ i = 1) : (R (TT P) (n + 20)).call 256 [.loc f, .d (.tuple [.int 2, .tuple [fld i]])] h = some (.d .none, h) := by
  rw [R_call _ _ _ _ _ (at_256 P)]
  obtain ⟨f1, f2⟩ := F
  rcases hi with rfl | rfl <;> simp (config := { decide := true }) [fn_256, f1, f2, hm, forS, cutTo, run, bindArgs, pick, exs, R_ex, R_ev, stepEx, stepEv, evs, evp, bopV, ifsAll, tst, tstN, tstA, srcOf, nextS, bindT, bindU, parts, initR, back, subV, attrV, findS, atL, idx0, idx1, idx2, idx3, idx4, idxm, short, lim, methB, mkind, sameKind, V.und, undL, truthy, isNone, bB, bI, binV, rd, cmpV, eqV, inV, natOf2, natOf3, natOf5, slcV, optNat, mkTup, allD, mkList, setS, setA, small, callB, anyEq, deq, deqs, intEq_dec, strEq_dec, sok0, sok1, sok2, sok3, sok4, sok5, sok6, sok7, sok8, sok9, sok10, sok11, sok12, sok13, sok14, sok15, sok16, sok17, sok18, sok19, sok20, sok21, sok22, sok23, sok24, sok25, sok26, sok27, sok28, sok29, sok30, sok31, sok32, sok33, sok34, sok35, sok36, sok37, sok38, sok39, sok40, sok41, sok42, sok43, sok44, sok45, sok46, sok47, sok48, sok49, sok50, lay, PyData.canLay0, PyData.canLayAll0, PyData.depth, PyData.depthAll, mkDict, dspS, dspI, dspII, putS, ite_self]
theorem c263k {v : Int} (K : isKind k lo b) (F : FactsAt h f kf m) : (R (TT P) (n + 30)).call 263 [.loc f, .d (cI k v)] h = some (.d (.int v), h) := by
  rw [R_call _ _ _ _ _ (at_263 P)]
  simp (config := { decide := true }) [fn_263, run, bindArgs, pick, exs, R_ex, R_ev, stepEx, stepEv, evs, evp, bopV, ifsAll, tst, tstN, tstA, srcOf, nextS, bindT, bindU, parts, initR, back, subV, attrV, findS, atL, idx0, idx1, idx2, idx3, idx4, idxm, short, lim, methB, mkind, sameKind, V.und, undL, truthy, isNone, bB, bI, binV, rd, cmpV, eqV, inV, natOf2, natOf3, natOf5, slcV, optNat, mkTup, allD, mkList, setS, setA, small, callB, anyEq, deq, deqs, intEq_dec, strEq_dec, sok0, sok1, sok2, sok3, sok4, sok5, sok6, sok7, sok8, sok9, sok10, sok11, sok12, sok13, sok14, sok15, sok16, sok17, sok18, sok19, sok20, sok21, sok22, sok23, sok24, sok25, sok26, sok27, sok28, sok29, sok30, sok31, sok32, sok33, sok34, sok35, sok36, sok37, sok38, sok39, sok40, sok41, sok42, sok43, sok44, sok45, sok46, sok47, sok48, sok49, sok50, lay, PyData.canLay0, PyData.canLayAll0, PyData.depth, PyData.depthAll, mkDict, dspS, dspI, dspII, putS, ite_self]
theorem c263p {w : Str} {p : PyData} {v : V} (hw : w = "copy" ∨ w = "move") (F : FactsAt h f kf m) (e : ∀ n, (R (TT P) (n + 20)).call 256 [.loc f, .d p] h = some (v, h)) (hv : ∃ x, v = .d x) : (R (TT P) (n + 30)).call 263 [.loc f, .d (.tuple [.str w, p])] h = some (v, h) := by
  rw [R_call _ _ _ _ _ (at_263 P)]
  obtain ⟨f1, f2⟩ := F
  obtain ⟨x, rfl⟩ := hv
  have e2 := cls273 (P := P)
  rcases hw with rfl | rfl <;> simp (config := { decide := true }) [fn_263, f1, f2, e, e2, run, bindArgs, pick, exs, R_ex, R_ev, stepEx, stepEv, evs, evp, bopV, ifsAll, tst, tstN, tstA, srcOf, nextS, bindT, bindU, parts, initR, back, subV, attrV, findS, atL, idx0, idx1, idx2, idx3, idx4, idxm, short, lim, methB, mkind, sameKind, V.und, undL, truthy, isNone, bB, bI, binV, rd, cmpV, eqV, inV, natOf2, natOf3, natOf5, slcV, optNat, mkTup, allD, mkList, setS, setA, small, callB, anyEq, deq, deqs, intEq_dec, strEq_dec, sok0, sok1, sok2, sok3, sok4, sok5, sok6, sok7, sok8, sok9, sok10, sok11, sok12, sok13, sok14, sok15, sok16, sok17, sok18, sok19, sok20, sok21, sok22, sok23, sok24, sok25, sok26, sok27, sok28, sok29, sok30, sok31, sok32, sok33, sok34, sok35, sok36, sok37, sok38, sok39, sok40, sok41, sok42, sok43, sok44, sok45, sok46, sok47, sok48, sok49, sok50, lay, PyData.canLay0, PyData.canLayAll0, PyData.depth, PyData.depthAll, mkDict, dspS, dspI, dspII, putS, ite_self]
end Mine
end
section
open PySem PySem.W
set_option maxRecDepth 100000
set_option linter.unusedSimpArgs false
set_option linter.unusedVariables false
namespace Mine
variable {P : Params} {n : Nat} {h : List O} {k : Str} {lo : Int} {b : Nat} {f kf c bo bl be fo : Nat} {m : List (Int × PyData)}
theorem c270 {l : Int} {p : PyData} (F : FactsAt h f kf m) (hl : m.length ≤ 1000000) : (R (TT P) (n + 20)).call 270 [.loc f, .d (.tuple [.int l, p])] h = some (.d .none, h.set kf (.idict (dropI l m))) := by
  rw [R_call _ _ _ _ _ (at_270 P)]
  obtain ⟨f1, f2⟩ := F
  have ts : ∀ x : O, List.take h.length (h.set kf x) = h.set kf x := fun x => List.take_of_length_le (by rw [List.length_set]; exact Nat.le_refl _)
  simp (config := { decide := true }) [fn_270, f1, f2, hl, ts, run, bindArgs, pick, exs, R_ex, R_ev, stepEx, stepEv, evs, evp, bopV, ifsAll, tst, tstN, tstA, srcOf, nextS, bindT, bindU, parts, initR, back, subV, attrV, findS, atL, idx0, idx1, idx2, idx3, idx4, idxm, short, lim, methB, mkind, sameKind, V.und, undL, truthy, isNone, bB, bI, binV, rd, cmpV, eqV, inV, natOf2, natOf3, natOf5, slcV, optNat, mkTup, allD, mkList, setS, setA, small, callB, anyEq, deq, deqs, intEq_dec, strEq_dec, sok0, sok1, sok2, sok3, sok4, sok5, sok6, sok7, sok8, sok9, sok10, sok11, sok12, sok13, sok14, sok15, sok16, sok17, sok18, sok19, sok20, sok21, sok22, sok23, sok24, sok25, sok26, sok27, sok28, sok29, sok30, sok31, sok32, sok33, sok34, sok35, sok36, sok37, sok38, sok39, sok40, sok41, sok42, sok43, sok44, sok45, sok46, sok47, sok48, sok49, sok50, lay, PyData.canLay0, PyData.canLayAll0, PyData.depth, PyData.depthAll, mkDict, dspS, dspI, dspII, putS, ite_self]
theorem c305k {t v : PyData} : (R (TT P) (n + 20)).call 305 [.loc c, .d (.tuple [.str "const", t, v])] h = some (.d t, h) := by
  rw [R_call _ _ _ _ _ (at_305 P)]
  simp (config := { decide := true }) [fn_305, run, bindArgs, pick, exs, R_ex, R_ev, stepEx, stepEv, evs, evp, bopV, ifsAll, tst, tstN, tstA, srcOf, nextS, bindT, bindU, parts, initR, back, subV, attrV, findS, atL, idx0, idx1, idx2, idx3, idx4, idxm, short, lim, methB, mkind, sameKind, V.und, undL, truthy, isNone, bB, bI, binV, rd, cmpV, eqV, inV, natOf2, natOf3, natOf5, slcV, optNat, mkTup, allD, mkList, setS, setA, small, callB, anyEq, deq, deqs, intEq_dec, strEq_dec, sok0, sok1, sok2, sok3, sok4, sok5, sok6, sok7, sok8, sok9, sok10, sok11, sok12, sok13, sok14, sok15, sok16, sok17, sok18, sok19, sok20, sok21, sok22, sok23, sok24, sok25, sok26, sok27, sok28, sok29, sok30, sok31, sok32, sok33, sok34, sok35, sok36, sok37, sok38, sok39, sok40, sok41, sok42, sok43, sok44, sok45, sok46, sok47, sok48, sok49, sok50, lay, PyData.canLay0, PyData.canLayAll0, PyData.depth, PyData.depthAll, mkDict, dspS, dspI, dspII, putS, ite_self]
def typeAt (k : Str) (l : Int) : PyData := if l = 0 then tI k else if l = 1 then tI k else if l = 2 then .tuple [.str "tuple", .tuple [tI k, tB]] else if l = 3 then tB else tI "i32"
theorem c305l {w : Str} {l : Int} (C : ConsAt h c bo bl be fo k) (hw : w = "copy" ∨ w = "move") (hl : l = 0 ∨ l = 1 ∨ l = 2 ∨ l = 3 ∨ l = 4) : (R (TT P) (n + 30)).call 305 [.loc c, .d (.tuple [.str w, pl l])] h = some (.d (typeAt k l), h) := by
  rw [R_call _ _ _ _ _ (at_305 P)]
  obtain ⟨c1, c2, _⟩ := C
  rcases hw with rfl | rfl <;> rcases hl with rfl | rfl | rfl | rfl | rfl <;> simp (config := { decide := true }) [fn_305, typeAt, c1, c2, forS, cutTo, run, bindArgs, pick, exs, R_ex, R_ev, stepEx, stepEv, evs, evp, bopV, ifsAll, tst, tstN, tstA, srcOf, nextS, bindT, bindU, parts, initR, back, subV, attrV, findS, atL, idx0, idx1, idx2, idx3, idx4, idxm, short, lim, methB, mkind, sameKind, V.und, undL, truthy, isNone, bB, bI, binV, rd, cmpV, eqV, inV, natOf2, natOf3, natOf5, slcV, optNat, mkTup, allD, mkList, setS, setA, small, callB, anyEq, deq, deqs, intEq_dec, strEq_dec, sok0, sok1, sok2, sok3, sok4, sok5, sok6, sok7, sok8, sok9, sok10, sok11, sok12, sok13, sok14, sok15, sok16, sok17, sok18, sok19, sok20, sok21, sok22, sok23, sok24, sok25, sok26, sok27, sok28, sok29, sok30, sok31, sok32, sok33, sok34, sok35, sok36, sok37, sok38, sok39, sok40, sok41, sok42, sok43, sok44, sok45, sok46, sok47, sok48, sok49, sok50, lay, PyData.canLay0, PyData.canLayAll0, PyData.depth, PyData.depthAll, mkDict, dspS, dspI, dspII, putS, ite_self]
theorem c305f {w : Str} {i : Int} (C : ConsAt h c bo bl be fo k) (hw : w = "copy" ∨ w = "move") (hi : i = 0 ∨ i = 1) : (R (TT P) (n + 30)).call 305 [.loc c, .d (.tuple [.str w, .tuple [.int 2, .tuple [fld i]]])] h = some (.d (if i = 0 then tI k else tB), h) := by
  rw [R_call _ _ _ _ _ (at_305 P)]
  obtain ⟨c1, c2, _⟩ := C
  rcases hw with rfl | rfl <;> rcases hi with rfl | rfl <;> simp (config := { decide := true }) [fn_305, c1, c2, forS, cutTo, run, bindArgs, pick, exs, R_ex, R_ev, stepEx, stepEv, evs, evp, bopV, ifsAll, tst, tstN, tstA, srcOf, nextS, bindT, bindU, parts, initR, back, subV, attrV, findS, atL, idx0, idx1, idx2, idx3, idx4, idxm, short, lim, methB, mkind, sameKind, V.und, undL, truthy, isNone, bB, bI, binV, rd, cmpV, eqV, inV, natOf2, natOf3, natOf5, slcV, optNat, mkTup, allD, mkList, setS, setA, small, callB, anyEq, deq, deqs, intEq_dec, strEq_dec, sok0, sok1, sok2, sok3, sok4, sok5, sok6, sok7, sok8, sok9, sok10, sok11, sok12, sok13, sok14, sok15, sok16, sok17, sok18, sok19, sok20, sok21, sok22, sok23, sok24, sok25, sok26, sok27, sok28, sok29, sok30, sok31, sok32, sok33, sok34, sok35, sok36, sok37, sok38, sok39, sok40, sok41, sok42, sok43, sok44, sok45, sok46, sok47, sok48, sok49, sok50, lay, PyData.canLay0, PyData.canLayAll0, PyData.depth, PyData.depthAll, mkDict, dspS, dspI, dspII, putS, ite_self]
def relS (op : Str) (x y : Int) : Bool := if op = "==" then decide (x = y) else if op = "<" then decide (x < y) else if op = "<=" then decide (x ≤ y) else if op = ">" then decide (x > y) else if op = ">=" then decide (x ≥ y) else !decide (x = y)
theorem c132 {op : Str} {x y : Int} (hop : op = "==" ∨ isCmp op) : (R (TT P) (n + 20)).call 132 [.d (.str op), .d (.int x), .d (.int y)] h = some (.d (.bool (relS op x y)), h) := by
  rw [R_call _ _ _ _ _ (at_132 P)]
  rcases hop with rfl | rfl | rfl | rfl | rfl | rfl <;> simp (config := { decide := true }) [fn_132, relS, run, bindArgs, pick, exs, R_ex, R_ev, stepEx, stepEv, evs, evp, bopV, ifsAll, tst, tstN, tstA, srcOf, nextS, bindT, bindU, parts, initR, back, subV, attrV, findS, atL, idx0, idx1, idx2, idx3, idx4, idxm, short, lim, methB, mkind, sameKind, V.und, undL, truthy, isNone, bB, bI, binV, rd, cmpV, eqV, inV, natOf2, natOf3, natOf5, slcV, optNat, mkTup, allD, mkList, setS, setA, small, callB, anyEq, deq, deqs, intEq_dec, strEq_dec, sok0, sok1, sok2, sok3, sok4, sok5, sok6, sok7, sok8, sok9, sok10, sok11, sok12, sok13, sok14, sok15, sok16, sok17, sok18, sok19, sok20, sok21, sok22, sok23, sok24, sok25, sok26, sok27, sok28, sok29, sok30, sok31, sok32, sok33, sok34, sok35, sok36, sok37, sok38, sok39, sok40, sok41, sok42, sok43, sok44, sok45, sok46, sok47, sok48, sok49, sok50, lay, PyData.canLay0, PyData.canLayAll0, PyData.depth, PyData.depthAll, mkDict, dspS, dspI, dspII, putS, ite_self]
theorem c284 {op : Str} {t : PyData} {x y : Int} (hop : op = "==" ∨ isCmp op) : (R (TT P) (n + 40)).call 284 [.d (.str op), .d t, .d (.int x), .d (.int y)] h = some (.d (.bool (relS op x y)), h) := by
  rw [R_call _ _ _ _ _ (at_284 P)]
  have e := fun n h => c132 (P := P) (n := n) (h := h) (x := x) (y := y) hop
  rcases hop with rfl | rfl | rfl | rfl | rfl | rfl <;> simp (config := { decide := true }) [fn_284, e, run, bindArgs, pick, exs, R_ex, R_ev, stepEx, stepEv, evs, evp, bopV, ifsAll, tst, tstN, tstA, srcOf, nextS, bindT, bindU, parts, initR, back, subV, attrV, findS, atL, idx0, idx1, idx2, idx3, idx4, idxm, short, lim, methB, mkind, sameKind, V.und, undL, truthy, isNone, bB, bI, binV, rd, cmpV, eqV, inV, natOf2, natOf3, natOf5, slcV, optNat, mkTup, allD, mkList, setS, setA, small, callB, anyEq, deq, deqs, intEq_dec, strEq_dec, sok0, sok1, sok2, sok3, sok4, sok5, sok6, sok7, sok8, sok9, sok10, sok11, sok12, sok13, sok14, sok15, sok16, sok17, sok18, sok19, sok20, sok21, sok22, sok23, sok24, sok25, sok26, sok27, sok28, sok29, sok30, sok31, sok32, sok33, sok34, sok35, sok36, sok37, sok38, sok39, sok40, sok41, sok42, sok43, sok44, sok45, sok46, sok47, sok48, sok49, sok50, lay, PyData.canLay0, PyData.canLayAll0, PyData.depth, PyData.depthAll, mkDict, dspS, dspI, dspII, putS, ite_self]
theorem cls396 : findN 396 (TT P).clss = some ⟨298, [("__init__", 298), ("type_of", 305), ("value_of", 310), ("of_two", 317), ("of_one", 324), ("of_cast", 331), ("step", 338), ("behind", 345), ("gone_on", 350), ("known_target", 357), ("meet", 362), ("follow", 369), ("put", 376), ("put_rvalue", 381), ("put_statement", 388), ("put_terminator", 393)], []⟩ := by kernel_rfl
end Mine
end
section
open PySem PySem.W
set_option maxRecDepth 100000
set_option linter.unusedSimpArgs false
set_option linter.unusedVariables false
namespace Mine
variable {P : Params} {n : Nat} {h : List O} {k : Str} {lo : Int} {b : Nat} {f kf c bo bl be fo : Nat} {m : List (Int × PyData)}
section
variable {lf rg : PyData} {x y : Int} (F : FactsAt h f kf m) (C : ConsAt h c bo bl be fo k) (K : isKind k lo b)
  (el : ∀ n, (R (TT P) (n + 40)).call 263 [.loc f, .d lf] h = some (.d (.int x), h)) (er : ∀ n, (R (TT P) (n + 40)).call 263 [.loc f, .d rg] h = some (.d (.int y), h)) (et : ∀ n, (R (TT P) (n + 40)).call 305 [.loc c, .d lf] h = some (.d (tI k), h))
include F C K el er et
theorem c317b {op : Str} (hop : op = "==" ∨ isCmp op) : (R (TT P) (n + 60)).call 317 [.loc c, .d (rBin op lf rg), .loc f] h = some (.d (.bool (relS op x y)), h) := by
  rw [R_call _ _ _ _ _ (at_317 P)]
  have e := fun n h t => c284 (P := P) (n := n) (h := h) (x := x) (y := y) (t := t) hop
  obtain ⟨f1, f2⟩ := F
  obtain ⟨c1, c2, _⟩ := C
  have k1 := cls273 (P := P)
  have k2 := cls396 (P := P)
  simp (config := { decide := true }) [fn_317, f1, c1, k1, k2, el, er, et, e, run, bindArgs, pick, exs, R_ex, R_ev, stepEx, stepEv, evs, evp, bopV, ifsAll, tst, tstN, tstA, srcOf, nextS, bindT, bindU, parts, initR, back, subV, attrV, findS, atL, idx0, idx1, idx2, idx3, idx4, idxm, short, lim, methB, mkind, sameKind, V.und, undL, truthy, isNone, bB, bI, binV, rd, cmpV, eqV, inV, natOf2, natOf3, natOf5, slcV, optNat, mkTup, allD, mkList, setS, setA, small, callB, anyEq, deq, deqs, intEq_dec, strEq_dec, sok0, sok1, sok2, sok3, sok4, sok5, sok6, sok7, sok8, sok9, sok10, sok11, sok12, sok13, sok14, sok15, sok16, sok17, sok18, sok19, sok20, sok21, sok22, sok23, sok24, sok25, sok26, sok27, sok28, sok29, sok30, sok31, sok32, sok33, sok34, sok35, sok36, sok37, sok38, sok39, sok40, sok41, sok42, sok43, sok44, sok45, sok46, sok47, sok48, sok49, sok50, lay, PyData.canLay0, PyData.canLayAll0, PyData.depth, PyData.depthAll, mkDict, dspS, dspI, dspII, putS, ite_self]
theorem c317c {op : Str} (hop : isOp op) (hs : small y = true) (ho : y ≠ 0 ∨ (op ≠ "/" ∧ op ≠ "%")) : (R (TT P) (n + 80)).call 317 [.loc c, .d (rChk op lf rg), .loc f] h = some (.d (.tuple [.int (wrapS lo b (wholeS op b x y)), .bool (overS op lo b x y)]), h) := by
  rw [R_call _ _ _ _ _ (at_317 P)]
  have e := fun n h => c118 (P := P) (n := n) (h := h) (a := x) (o := y) K hop hs ho
  obtain ⟨f1, f2⟩ := F
  obtain ⟨c1, c2, _⟩ := C
  have k1 := cls273 (P := P)
  have k2 := cls396 (P := P)
  simp (config := { decide := true }) [fn_317, f1, c1, k1, k2, el, er, et, e, run, bindArgs, pick, exs, R_ex, R_ev, stepEx, stepEv, evs, evp, bopV, ifsAll, tst, tstN, tstA, srcOf, nextS, bindT, bindU, parts, initR, back, subV, attrV, findS, atL, idx0, idx1, idx2, idx3, idx4, idxm, short, lim, methB, mkind, sameKind, V.und, undL, truthy, isNone, bB, bI, binV, rd, cmpV, eqV, inV, natOf2, natOf3, natOf5, slcV, optNat, mkTup, allD, mkList, setS, setA, small, callB, anyEq, deq, deqs, intEq_dec, strEq_dec, sok0, sok1, sok2, sok3, sok4, sok5, sok6, sok7, sok8, sok9, sok10, sok11, sok12, sok13, sok14, sok15, sok16, sok17, sok18, sok19, sok20, sok21, sok22, sok23, sok24, sok25, sok26, sok27, sok28, sok29, sok30, sok31, sok32, sok33, sok34, sok35, sok36, sok37, sok38, sok39, sok40, sok41, sok42, sok43, sok44, sok45, sok46, sok47, sok48, sok49, sok50, lay, PyData.canLay0, PyData.canLayAll0, PyData.depth, PyData.depthAll, mkDict, dspS, dspI, dspII, putS, ite_self]
theorem c317z {op : Str} (hop : op = "/" ∨ op = "%") (hy : y = 0) : (R (TT P) (n + 80)).call 317 [.loc c, .d (rChk op lf rg), .loc f] h = some (.d .none, h) := by
  rw [R_call _ _ _ _ _ (at_317 P)]
  subst hy
  have e := fun n h => c118z (P := P) (n := n) (h := h) (k := k) (a := x) hop
  obtain ⟨f1, f2⟩ := F
  obtain ⟨c1, c2, _⟩ := C
  have k1 := cls273 (P := P)
  have k2 := cls396 (P := P)
  simp (config := { decide := true }) [fn_317, f1, c1, k1, k2, el, er, et, e, run, bindArgs, pick, exs, R_ex, R_ev, stepEx, stepEv, evs, evp, bopV, ifsAll, tst, tstN, tstA, srcOf, nextS, bindT, bindU, parts, initR, back, subV, attrV, findS, atL, idx0, idx1, idx2, idx3, idx4, idxm, short, lim, methB, mkind, sameKind, V.und, undL, truthy, isNone, bB, bI, binV, rd, cmpV, eqV, inV, natOf2, natOf3, natOf5, slcV, optNat, mkTup, allD, mkList, setS, setA, small, callB, anyEq, deq, deqs, intEq_dec, strEq_dec, sok0, sok1, sok2, sok3, sok4, sok5, sok6, sok7, sok8, sok9, sok10, sok11, sok12, sok13, sok14, sok15, sok16, sok17, sok18, sok19, sok20, sok21, sok22, sok23, sok24, sok25, sok26, sok27, sok28, sok29, sok30, sok31, sok32, sok33, sok34, sok35, sok36, sok37, sok38, sok39, sok40, sok41, sok42, sok43, sok44, sok45, sok46, sok47, sok48, sok49, sok50, lay, PyData.canLay0, PyData.canLayAll0, PyData.depth, PyData.depthAll, mkDict, dspS, dspI, dspII, putS, ite_self]
end
section
variable {lf : PyData} {x : Int} (F : FactsAt h f kf m) (C : ConsAt h c bo bl be fo k) (K : isKind k lo b)
  (el : ∀ n, (R (TT P) (n + 40)).call 263 [.loc f, .d lf] h = some (.d (.int x), h)) (et : ∀ n, (R (TT P) (n + 40)).call 305 [.loc c, .d lf] h = some (.d (tI k), h))
include F C K el et
theorem c324 {op : Str} (hop : op = "!" ∨ op = "-") : (R (TT P) (n + 60)).call 324 [.loc c, .d (rUn op lf), .loc f] h = some (.d (.int (wrapS lo b (if op = "!" then -1 - x else -x))), h) := by
  rw [R_call _ _ _ _ _ (at_324 P)]
  have e := fun n h x => c90 (P := P) (n := n) (h := h) (x := x) K
  obtain ⟨f1, f2⟩ := F
  obtain ⟨c1, c2, _⟩ := C
  have k1 := cls273 (P := P)
  have k2 := cls396 (P := P)
  have z : (0 : Int) - x = -x := Int.zero_sub x
  rcases hop with rfl | rfl <;> simp (config := { decide := true }) [fn_324, f1, c1, k1, k2, el, et, e, z, run, bindArgs, pick, exs, R_ex, R_ev, stepEx, stepEv, evs, evp, bopV, ifsAll, tst, tstN, tstA, srcOf, nextS, bindT, bindU, parts, initR, back, subV, attrV, findS, atL, idx0, idx1, idx2, idx3, idx4, idxm, short, lim, methB, mkind, sameKind, V.und, undL, truthy, isNone, bB, bI, binV, rd, cmpV, eqV, inV, natOf2, natOf3, natOf5, slcV, optNat, mkTup, allD, mkList, setS, setA, small, callB, anyEq, deq, deqs, intEq_dec, strEq_dec, sok0, sok1, sok2, sok3, sok4, sok5, sok6, sok7, sok8, sok9, sok10, sok11, sok12, sok13, sok14, sok15, sok16, sok17, sok18, sok19, sok20, sok21, sok22, sok23, sok24, sok25, sok26, sok27, sok28, sok29, sok30, sok31, sok32, sok33, sok34, sok35, sok36, sok37, sok38, sok39, sok40, sok41, sok42, sok43, sok44, sok45, sok46, sok47, sok48, sok49, sok50, lay, PyData.canLay0, PyData.canLayAll0, PyData.depth, PyData.depthAll, mkDict, dspS, dspI, dspII, putS, ite_self]
theorem c331 : (R (TT P) (n + 60)).call 331 [.loc c, .d (rCast lf), .loc f] h = some (.d (.int (wrapS (-2147483648) 32 x)), h) := by
  rw [R_call _ _ _ _ _ (at_331 P)]
  have K3 : isKind "i32" (-2147483648) 32 := .inr (.inr (.inl ⟨rfl, rfl, rfl⟩))
  have e := fun n h x => c97 (P := P) (n := n) (h := h) (x := x) K3
  obtain ⟨f1, f2⟩ := F
  obtain ⟨c1, c2, _⟩ := C
  have k1 := cls273 (P := P)
  have k2 := cls396 (P := P)
  simp (config := { decide := true }) [fn_331, f1, c1, k1, k2, el, et, e, run, bindArgs, pick, exs, R_ex, R_ev, stepEx, stepEv, evs, evp, bopV, ifsAll, tst, tstN, tstA, srcOf, nextS, bindT, bindU, parts, initR, back, subV, attrV, findS, atL, idx0, idx1, idx2, idx3, idx4, idxm, short, lim, methB, mkind, sameKind, V.und, undL, truthy, isNone, bB, bI, binV, rd, cmpV, eqV, inV, natOf2, natOf3, natOf5, slcV, optNat, mkTup, allD, mkList, setS, setA, small, callB, anyEq, deq, deqs, intEq_dec, strEq_dec, sok0, sok1, sok2, sok3, sok4, sok5, sok6, sok7, sok8, sok9, sok10, sok11, sok12, sok13, sok14, sok15, sok16, sok17, sok18, sok19, sok20, sok21, sok22, sok23, sok24, sok25, sok26, sok27, sok28, sok29, sok30, sok31, sok32, sok33, sok34, sok35, sok36, sok37, sok38, sok39, sok40, sok41, sok42, sok43, sok44, sok45, sok46, sok47, sok48, sok49, sok50, lay, PyData.canLay0, PyData.canLayAll0, PyData.depth, PyData.depthAll, mkDict, dspS, dspI, dspII, putS, ite_self]
end
section
variable {v : PyData} (F : FactsAt h f kf m) (C : ConsAt h c bo bl be fo k)
include F C
theorem c310u {o : PyData} (e : ∀ n, (R (TT P) (n + 40)).call 263 [.loc f, .d o] h = some (.d v, h)) : (R (TT P) (n + 60)).call 310 [.loc c, .d (rUse o), .loc f] h = some (.d v, h) := by
  rw [R_call _ _ _ _ _ (at_310 P)]
  obtain ⟨f1, f2⟩ := F
  obtain ⟨c1, c2, _⟩ := C
  have k1 := cls273 (P := P)
  have k2 := cls396 (P := P)
  simp (config := { decide := true }) [fn_310, f1, c1, k1, k2, e, run, bindArgs, pick, exs, R_ex, R_ev, stepEx, stepEv, evs, evp, bopV, ifsAll, tst, tstN, tstA, srcOf, nextS, bindT, bindU, parts, initR, back, subV, attrV, findS, atL, idx0, idx1, idx2, idx3, idx4, idxm, short, lim, methB, mkind, sameKind, V.und, undL, truthy, isNone, bB, bI, binV, rd, cmpV, eqV, inV, natOf2, natOf3, natOf5, slcV, optNat, mkTup, allD, mkList, setS, setA, small, callB, anyEq, deq, deqs, intEq_dec, strEq_dec, sok0, sok1, sok2, sok3, sok4, sok5, sok6, sok7, sok8, sok9, sok10, sok11, sok12, sok13, sok14, sok15, sok16, sok17, sok18, sok19, sok20, sok21, sok22, sok23, sok24, sok25, sok26, sok27, sok28, sok29, sok30, sok31, sok32, sok33, sok34, sok35, sok36, sok37, sok38, sok39, sok40, sok41, sok42, sok43, sok44, sok45, sok46, sok47, sok48, sok49, sok50, lay, PyData.canLay0, PyData.canLayAll0, PyData.depth, PyData.depthAll, mkDict, dspS, dspI, dspII, putS, ite_self]
theorem c310t {w : Str} {a1 a2 a3 : PyData} (hw : w = "binary" ∨ w = "checked") (e : ∀ n, (R (TT P) (n + 80)).call 317 [.loc c, .d (.tuple [.str w, a1, a2, a3]), .loc f] h = some (.d v, h)) : (R (TT P) (n + 100)).call 310 [.loc c, .d (.tuple [.str w, a1, a2, a3]), .loc f] h = some (.d v, h) := by
  rw [R_call _ _ _ _ _ (at_310 P)]
  obtain ⟨f1, f2⟩ := F
  obtain ⟨c1, c2, _⟩ := C
  have k1 := cls273 (P := P)
  have k2 := cls396 (P := P)
  rcases hw with rfl | rfl <;> simp (config := { decide := true }) [fn_310, f1, c1, k1, k2, e, run, bindArgs, pick, exs, R_ex, R_ev, stepEx, stepEv, evs, evp, bopV, ifsAll, tst, tstN, tstA, srcOf, nextS, bindT, bindU, parts, initR, back, subV, attrV, findS, atL, idx0, idx1, idx2, idx3, idx4, idxm, short, lim, methB, mkind, sameKind, V.und, undL, truthy, isNone, bB, bI, binV, rd, cmpV, eqV, inV, natOf2, natOf3, natOf5, slcV, optNat, mkTup, allD, mkList, setS, setA, small, callB, anyEq, deq, deqs, intEq_dec, strEq_dec, sok0, sok1, sok2, sok3, sok4, sok5, sok6, sok7, sok8, sok9, sok10, sok11, sok12, sok13, sok14, sok15, sok16, sok17, sok18, sok19, sok20, sok21, sok22, sok23, sok24, sok25, sok26, sok27, sok28, sok29, sok30, sok31, sok32, sok33, sok34, sok35, sok36, sok37, sok38, sok39, sok40, sok41, sok42, sok43, sok44, sok45, sok46, sok47, sok48, sok49, sok50, lay, PyData.canLay0, PyData.canLayAll0, PyData.depth, PyData.depthAll, mkDict, dspS, dspI, dspII, putS, ite_self]
theorem c310n {a1 a2 : PyData} (e : ∀ n, (R (TT P) (n + 80)).call 324 [.loc c, .d (.tuple [.str "unary", a1, a2]), .loc f] h = some (.d v, h)) : (R (TT P) (n + 100)).call 310 [.loc c, .d (.tuple [.str "unary", a1, a2]), .loc f] h = some (.d v, h) := by
  rw [R_call _ _ _ _ _ (at_310 P)]
  obtain ⟨f1, f2⟩ := F
  obtain ⟨c1, c2, _⟩ := C
  have k1 := cls273 (P := P)
  have k2 := cls396 (P := P)
  simp (config := { decide := true }) [fn_310, f1, c1, k1, k2, e, run, bindArgs, pick, exs, R_ex, R_ev, stepEx, stepEv, evs, evp, bopV, ifsAll, tst, tstN, tstA, srcOf, nextS, bindT, bindU, parts, initR, back, subV, attrV, findS, atL, idx0, idx1, idx2, idx3, idx4, idxm, short, lim, methB, mkind, sameKind, V.und, undL, truthy, isNone, bB, bI, binV, rd, cmpV, eqV, inV, natOf2, natOf3, natOf5, slcV, optNat, mkTup, allD, mkList, setS, setA, small, callB, anyEq, deq, deqs, intEq_dec, strEq_dec, sok0, sok1, sok2, sok3, sok4, sok5, sok6, sok7, sok8, sok9, sok10, sok11, sok12, sok13, sok14, sok15, sok16, sok17, sok18, sok19, sok20, sok21, sok22, sok23, sok24, sok25, sok26, sok27, sok28, sok29, sok30, sok31, sok32, sok33, sok34, sok35, sok36, sok37, sok38, sok39, sok40, sok41, sok42, sok43, sok44, sok45, sok46, sok47, sok48, sok49, sok50, lay, PyData.canLay0, PyData.canLayAll0, PyData.depth, PyData.depthAll, mkDict, dspS, dspI, dspII, putS, ite_self]
theorem c310c {a1 a2 : PyData} (e : ∀ n, (R (TT P) (n + 80)).call 331 [.loc c, .d (.tuple [.str "cast", a1, a2]), .loc f] h = some (.d v, h)) : (R (TT P) (n + 100)).call 310 [.loc c, .d (.tuple [.str "cast", a1, a2]), .loc f] h = some (.d v, h) := by
  rw [R_call _ _ _ _ _ (at_310 P)]
  obtain ⟨f1, f2⟩ := F
  obtain ⟨c1, c2, _⟩ := C
  have k1 := cls273 (P := P)
  have k2 := cls396 (P := P)
  simp (config := { decide := true }) [fn_310, f1, c1, k1, k2, e, run, bindArgs, pick, exs, R_ex, R_ev, stepEx, stepEv, evs, evp, bopV, ifsAll, tst, tstN, tstA, srcOf, nextS, bindT, bindU, parts, initR, back, subV, attrV, findS, atL, idx0, idx1, idx2, idx3, idx4, idxm, short, lim, methB, mkind, sameKind, V.und, undL, truthy, isNone, bB, bI, binV, rd, cmpV, eqV, inV, natOf2, natOf3, natOf5, slcV, optNat, mkTup, allD, mkList, setS, setA, small, callB, anyEq, deq, deqs, intEq_dec, strEq_dec, sok0, sok1, sok2, sok3, sok4, sok5, sok6, sok7, sok8, sok9, sok10, sok11, sok12, sok13, sok14, sok15, sok16, sok17, sok18, sok19, sok20, sok21, sok22, sok23, sok24, sok25, sok26, sok27, sok28, sok29, sok30, sok31, sok32, sok33, sok34, sok35, sok36, sok37, sok38, sok39, sok40, sok41, sok42, sok43, sok44, sok45, sok46, sok47, sok48, sok49, sok50, lay, PyData.canLay0, PyData.canLayAll0, PyData.depth, PyData.depthAll, mkDict, dspS, dspI, dspII, putS, ite_self]
end
end Mine
end
section
open PySem PySem.W
set_option maxRecDepth 100000
set_option linter.unusedSimpArgs false
set_option linter.unusedVariables false
set_option linter.unusedSectionVars false
namespace Mine
variable {P : Params} {n : Nat} {h : List O} {k : Str} {lo : Int} {b : Nat} {f kf c bo bl be fo : Nat} {m : List (Int × PyData)}
theorem FactsAt.ne (F : FactsAt h f kf m) : f ≠ kf := fun e => by
  have h1 := F.a
  have h2 := F.b
  rw [e] at h1
  rw [h1] at h2
  cases h2
theorem ConsAt.ne (C : ConsAt h c bo bl be fo k) (F : FactsAt h f kf m) : c ≠ kf ∧ bo ≠ kf := by
  constructor
  · intro e
    have h1 := C.a
    rw [e, F.b] at h1; cases h1
  · intro e
    have h1 := C.b
    rw [e, F.b] at h1; cases h1
theorem step_asg {l : Int} {rv v : PyData} (F : FactsAt h f kf m) (C : ConsAt h c bo bl be fo k) (hne : kf ≠ fo) (hl : m.length ≤ 1000) (hd : (dropI l m).length ≤ 1000) (hi : l = 0 ∨ l = 1 ∨ l = 2 ∨ l = 3 ∨ l = 4)
    (e : ∀ n, (R (TT P) (n + 100)).call 310 [.loc c, .d rv, .loc f] h = some (.d v, h)) (hv : isNone (.d v) = some false) :
    (R (TT P) (n + 120)).call 338 [.loc c, .d (sAsg l rv), .loc f] h = some (.d .none, h.set kf (.idict (putI l v (dropI l m)))) := by
  rw [R_call _ _ _ _ _ (at_338 P)]
  have e2 := fun n => c270 (P := P) (n := n) (l := l) (p := .tuple []) F (by omega)
  have n1 := F.ne
  obtain ⟨n2, n3⟩ := C.ne F
  obtain ⟨f1, f2⟩ := F
  obtain ⟨c1, c2, c3⟩ := C
  have hk : kf < h.length := (List.getElem?_eq_some_iff.mp f2).1
  have ts : ∀ x : O, List.take h.length (h.set kf x) = h.set kf x := fun x => List.take_of_length_le (by rw [List.length_set]; exact Nat.le_refl _)
  have g0 : ∀ x : O, (h.set kf x)[kf]? = some x := fun x => by rw [List.getElem?_set]; simp [hk]
  have g1 : ∀ x : O, (h.set kf x)[f]? = some (.attrs 273 [("known", .loc kf)]) := fun x => by rw [List.getElem?_set, if_neg n1.symm]; exact f1
  have g2 : ∀ x : O, (h.set kf x)[c]? = some (.attrs 396 [("body", .loc bo), ("followed", .loc fo), ("begins", .loc be)]) := fun x => by rw [List.getElem?_set, if_neg n2.symm]; exact c1
  have g3 : ∀ x : O, (h.set kf x)[fo]? = some (.idict folM) := fun x => by rw [List.getElem?_set, if_neg hne]; exact c3
  have k1 := cls273 (P := P)
  have k2 := cls396 (P := P)
  have hd' : (dropI l m).length ≤ 1000000 := by omega
  unfold isNone at hv
  rcases hi with rfl | rfl | rfl | rfl | rfl <;>
  · cases v <;> first | (cases hv; done) | simp (config := { decide := true }) [fn_338, f1, c1, k1, k2, e, e2, g0, g1, g2, g3, ts, hd', findI, run, bindArgs, pick, exs, R_ex, R_ev, stepEx, stepEv, evs, evp, bopV, ifsAll, tst, tstN, tstA, srcOf, nextS, bindT, bindU, parts, initR, back, subV, attrV, findS, atL, idx0, idx1, idx2, idx3, idx4, idxm, short, lim, methB, mkind, sameKind, V.und, undL, truthy, isNone, bB, bI, binV, rd, cmpV, eqV, inV, natOf2, natOf3, natOf5, slcV, optNat, mkTup, allD, mkList, setS, setA, small, callB, anyEq, deq, deqs, intEq_dec, strEq_dec, sok0, sok1, sok2, sok3, sok4, sok5, sok6, sok7, sok8, sok9, sok10, sok11, sok12, sok13, sok14, sok15, sok16, sok17, sok18, sok19, sok20, sok21, sok22, sok23, sok24, sok25, sok26, sok27, sok28, sok29, sok30, sok31, sok32, sok33, sok34, sok35, sok36, sok37, sok38, sok39, sok40, sok41, sok42, sok43, sok44, sok45, sok46, sok47, sok48, sok49, sok50, lay, PyData.canLay0, PyData.canLayAll0, PyData.depth, PyData.depthAll, mkDict, dspS, dspI, dspII, putS, ite_self]
theorem step_none {l : Int} {rv : PyData} (F : FactsAt h f kf m) (C : ConsAt h c bo bl be fo k) (hl : m.length ≤ 1000)
    (e : ∀ n, (R (TT P) (n + 100)).call 310 [.loc c, .d rv, .loc f] h = some (.d .none, h)) :
    (R (TT P) (n + 120)).call 338 [.loc c, .d (sAsg l rv), .loc f] h = some (.d .none, h.set kf (.idict (dropI l m))) := by
  rw [R_call _ _ _ _ _ (at_338 P)]
  have e2 := fun n => c270 (P := P) (n := n) (l := l) (p := .tuple []) F (by omega)
  obtain ⟨n2, n3⟩ := C.ne F
  have n1 := F.ne
  obtain ⟨f1, f2⟩ := F
  obtain ⟨c1, c2, c3⟩ := C
  have ts : ∀ x : O, List.take h.length (h.set kf x) = h.set kf x := fun x => List.take_of_length_le (by rw [List.length_set]; exact Nat.le_refl _)
  have g1 : ∀ x : O, (h.set kf x)[f]? = some (.attrs 273 [("known", .loc kf)]) := fun x => by rw [List.getElem?_set, if_neg n1.symm]; exact f1
  have k1 := cls273 (P := P)
  have k2 := cls396 (P := P)
  simp (config := { decide := true }) [fn_338, f1, c1, k1, k2, e, e2, ts, g1, run, bindArgs, pick, exs, R_ex, R_ev, stepEx, stepEv, evs, evp, bopV, ifsAll, tst, tstN, tstA, srcOf, nextS, bindT, bindU, parts, initR, back, subV, attrV, findS, atL, idx0, idx1, idx2, idx3, idx4, idxm, short, lim, methB, mkind, sameKind, V.und, undL, truthy, isNone, bB, bI, binV, rd, cmpV, eqV, inV, natOf2, natOf3, natOf5, slcV, optNat, mkTup, allD, mkList, setS, setA, small, callB, anyEq, deq, deqs, intEq_dec, strEq_dec, sok0, sok1, sok2, sok3, sok4, sok5, sok6, sok7, sok8, sok9, sok10, sok11, sok12, sok13, sok14, sok15, sok16, sok17, sok18, sok19, sok20, sok21, sok22, sok23, sok24, sok25, sok26, sok27, sok28, sok29, sok30, sok31, sok32, sok33, sok34, sok35, sok36, sok37, sok38, sok39, sok40, sok41, sok42, sok43, sok44, sok45, sok46, sok47, sok48, sok49, sok50, lay, PyData.canLay0, PyData.canLayAll0, PyData.depth, PyData.depthAll, mkDict, dspS, dspI, dspII, putS, ite_self]
theorem step_print {o : PyData} : (R (TT P) (n + 120)).call 338 [.loc c, .d (sPrint o), .loc f] h = some (.d .none, h) := by
  rw [R_call _ _ _ _ _ (at_338 P)]
  simp (config := { decide := true }) [fn_338, run, bindArgs, pick, exs, R_ex, R_ev, stepEx, stepEv, evs, evp, bopV, ifsAll, tst, tstN, tstA, srcOf, nextS, bindT, bindU, parts, initR, back, subV, attrV, findS, atL, idx0, idx1, idx2, idx3, idx4, idxm, short, lim, methB, mkind, sameKind, V.und, undL, truthy, isNone, bB, bI, binV, rd, cmpV, eqV, inV, natOf2, natOf3, natOf5, slcV, optNat, mkTup, allD, mkList, setS, setA, small, callB, anyEq, deq, deqs, intEq_dec, strEq_dec, sok0, sok1, sok2, sok3, sok4, sok5, sok6, sok7, sok8, sok9, sok10, sok11, sok12, sok13, sok14, sok15, sok16, sok17, sok18, sok19, sok20, sok21, sok22, sok23, sok24, sok25, sok26, sok27, sok28, sok29, sok30, sok31, sok32, sok33, sok34, sok35, sok36, sok37, sok38, sok39, sok40, sok41, sok42, sok43, sok44, sok45, sok46, sok47, sok48, sok49, sok50, lay, PyData.canLay0, PyData.canLayAll0, PyData.depth, PyData.depthAll, mkDict, dspS, dspI, dspII, putS, ite_self]
end Mine
end
section
open PySem PySem.W
set_option maxRecDepth 100000
set_option linter.unusedSimpArgs false
set_option linter.unusedVariables false
set_option linter.unusedSectionVars false
namespace Mine
variable {P : Params} {n : Nat} {h : List O} {k : Str} {lo : Int} {b : Nat} {f kf c bo bl be fo : Nat} {m : List (Int × PyData)}
theorem put_const {t v : PyData} : (R (TT P) (n + 60)).call 376 [.loc c, .d (.tuple [.str "const", t, v]), .loc f] h = some (.d (.tuple [.str "const", t, v]), h) := by
  rw [R_call _ _ _ _ _ (at_376 P)]
  simp (config := { decide := true }) [fn_376, run, bindArgs, pick, exs, R_ex, R_ev, stepEx, stepEv, evs, evp, bopV, ifsAll, tst, tstN, tstA, srcOf, nextS, bindT, bindU, parts, initR, back, subV, attrV, findS, atL, idx0, idx1, idx2, idx3, idx4, idxm, short, lim, methB, mkind, sameKind, V.und, undL, truthy, isNone, bB, bI, binV, rd, cmpV, eqV, inV, natOf2, natOf3, natOf5, slcV, optNat, mkTup, allD, mkList, setS, setA, small, callB, anyEq, deq, deqs, intEq_dec, strEq_dec, sok0, sok1, sok2, sok3, sok4, sok5, sok6, sok7, sok8, sok9, sok10, sok11, sok12, sok13, sok14, sok15, sok16, sok17, sok18, sok19, sok20, sok21, sok22, sok23, sok24, sok25, sok26, sok27, sok28, sok29, sok30, sok31, sok32, sok33, sok34, sok35, sok36, sok37, sok38, sok39, sok40, sok41, sok42, sok43, sok44, sok45, sok46, sok47, sok48, sok49, sok50, lay, PyData.canLay0, PyData.canLayAll0, PyData.depth, PyData.depthAll, mkDict, dspS, dspI, dspII, putS, ite_self]
theorem put_known {w : Str} {p v : PyData} {t : PyData} (ht : t = tI k ∨ t = tB) (K : isKind k lo b) (F : FactsAt h f kf m) (C : ConsAt h c bo bl be fo k) (hw : w = "copy" ∨ w = "move")
    (e1 : ∀ n, (R (TT P) (n + 40)).call 263 [.loc f, .d (.tuple [.str w, p])] h = some (.d v, h)) (e2 : ∀ n, (R (TT P) (n + 40)).call 305 [.loc c, .d (.tuple [.str w, p])] h = some (.d t, h)) (hv : isNone (.d v) = some false) :
    (R (TT P) (n + 60)).call 376 [.loc c, .d (.tuple [.str w, p]), .loc f] h = some (.d (.tuple [.str "const", t, v]), h) := by
  rw [R_call _ _ _ _ _ (at_376 P)]
  obtain ⟨f1, f2⟩ := F
  obtain ⟨c1, c2, c3⟩ := C
  have k1 := cls273 (P := P)
  have k2 := cls396 (P := P)
  unfold isNone at hv
  rcases ht with rfl | rfl <;> rcases hw with rfl | rfl <;> cases v <;> first | (cases hv; done) | simp (config := { decide := true }) [fn_376, f1, c1, k1, k2, e1, e2, run, bindArgs, pick, exs, R_ex, R_ev, stepEx, stepEv, evs, evp, bopV, ifsAll, tst, tstN, tstA, srcOf, nextS, bindT, bindU, parts, initR, back, subV, attrV, findS, atL, idx0, idx1, idx2, idx3, idx4, idxm, short, lim, methB, mkind, sameKind, V.und, undL, truthy, isNone, bB, bI, binV, rd, cmpV, eqV, inV, natOf2, natOf3, natOf5, slcV, optNat, mkTup, allD, mkList, setS, setA, small, callB, anyEq, deq, deqs, intEq_dec, strEq_dec, sok0, sok1, sok2, sok3, sok4, sok5, sok6, sok7, sok8, sok9, sok10, sok11, sok12, sok13, sok14, sok15, sok16, sok17, sok18, sok19, sok20, sok21, sok22, sok23, sok24, sok25, sok26, sok27, sok28, sok29, sok30, sok31, sok32, sok33, sok34, sok35, sok36, sok37, sok38, sok39, sok40, sok41, sok42, sok43, sok44, sok45, sok46, sok47, sok48, sok49, sok50, lay, PyData.canLay0, PyData.canLayAll0, PyData.depth, PyData.depthAll, mkDict, dspS, dspI, dspII, putS, ite_self]
theorem put_unknown {w : Str} {p t : PyData} (F : FactsAt h f kf m) (C : ConsAt h c bo bl be fo k) (hw : w = "copy" ∨ w = "move")
    (e1 : ∀ n, (R (TT P) (n + 40)).call 263 [.loc f, .d (.tuple [.str w, p])] h = some (.d .none, h)) (e2 : ∀ n, (R (TT P) (n + 40)).call 305 [.loc c, .d (.tuple [.str w, p])] h = some (.d t, h)) :
    (R (TT P) (n + 60)).call 376 [.loc c, .d (.tuple [.str w, p]), .loc f] h = some (.d (.tuple [.str w, p]), h) := by
  rw [R_call _ _ _ _ _ (at_376 P)]
  obtain ⟨f1, f2⟩ := F
  obtain ⟨c1, c2, c3⟩ := C
  have k1 := cls273 (P := P)
  have k2 := cls396 (P := P)
  rcases hw with rfl | rfl <;> simp (config := { decide := true }) [fn_376, f1, c1, k1, k2, e1, e2, run, bindArgs, pick, exs, R_ex, R_ev, stepEx, stepEv, evs, evp, bopV, ifsAll, tst, tstN, tstA, srcOf, nextS, bindT, bindU, parts, initR, back, subV, attrV, findS, atL, idx0, idx1, idx2, idx3, idx4, idxm, short, lim, methB, mkind, sameKind, V.und, undL, truthy, isNone, bB, bI, binV, rd, cmpV, eqV, inV, natOf2, natOf3, natOf5, slcV, optNat, mkTup, allD, mkList, setS, setA, small, callB, anyEq, deq, deqs, intEq_dec, strEq_dec, sok0, sok1, sok2, sok3, sok4, sok5, sok6, sok7, sok8, sok9, sok10, sok11, sok12, sok13, sok14, sok15, sok16, sok17, sok18, sok19, sok20, sok21, sok22, sok23, sok24, sok25, sok26, sok27, sok28, sok29, sok30, sok31, sok32, sok33, sok34, sok35, sok36, sok37, sok38, sok39, sok40, sok41, sok42, sok43, sok44, sok45, sok46, sok47, sok48, sok49, sok50, lay, PyData.canLay0, PyData.canLayAll0, PyData.depth, PyData.depthAll, mkDict, dspS, dspI, dspII, putS, ite_self]
theorem putr_known {l : Int} {rv v : PyData} (K : isKind k lo b) (F : FactsAt h f kf m) (C : ConsAt h c bo bl be fo k) (hl : l = 0 ∨ l = 1 ∨ l = 3 ∨ l = 4)
    (e : ∀ n, (R (TT P) (n + 100)).call 310 [.loc c, .d rv, .loc f] h = some (.d v, h)) (hv : isNone (.d v) = some false) :
    (R (TT P) (n + 120)).call 381 [.loc c, .d rv, .d (pl l), .loc f] h = some (.d (rUse (.tuple [.str "const", typeAt k l, v])), h) := by
  rw [R_call _ _ _ _ _ (at_381 P)]
  have e2 := fun n => c305l (P := P) (n := n) (w := "copy") (l := l) C (.inl rfl) (by omega)
  obtain ⟨f1, f2⟩ := F
  obtain ⟨c1, c2, c3⟩ := C
  have k1 := cls273 (P := P)
  have k2 := cls396 (P := P)
  unfold isNone at hv
  rcases hl with rfl | rfl | rfl | rfl <;> cases v <;> first | (cases hv; done) | simp (config := { decide := true }) [fn_381, typeAt, f1, c1, k1, k2, e, e2, run, bindArgs, pick, exs, R_ex, R_ev, stepEx, stepEv, evs, evp, bopV, ifsAll, tst, tstN, tstA, srcOf, nextS, bindT, bindU, parts, initR, back, subV, attrV, findS, atL, idx0, idx1, idx2, idx3, idx4, idxm, short, lim, methB, mkind, sameKind, V.und, undL, truthy, isNone, bB, bI, binV, rd, cmpV, eqV, inV, natOf2, natOf3, natOf5, slcV, optNat, mkTup, allD, mkList, setS, setA, small, callB, anyEq, deq, deqs, intEq_dec, strEq_dec, sok0, sok1, sok2, sok3, sok4, sok5, sok6, sok7, sok8, sok9, sok10, sok11, sok12, sok13, sok14, sok15, sok16, sok17, sok18, sok19, sok20, sok21, sok22, sok23, sok24, sok25, sok26, sok27, sok28, sok29, sok30, sok31, sok32, sok33, sok34, sok35, sok36, sok37, sok38, sok39, sok40, sok41, sok42, sok43, sok44, sok45, sok46, sok47, sok48, sok49, sok50, lay, PyData.canLay0, PyData.canLayAll0, PyData.depth, PyData.depthAll, mkDict, dspS, dspI, dspII, putS, ite_self]
theorem c214 {w : Str} {a1 a2 a3 : PyData} (hw : w = "binary" ∨ w = "checked") : (R (TT P) (n + 30)).call 214 [.d (.tuple [.str w, a1, a2, a3])] h = some (.d (.list [a2, a3]), h) := by
  rw [R_call _ _ _ _ _ (at_214 P)]
  rcases hw with rfl | rfl <;> simp (config := { decide := true }) [fn_214, run, bindArgs, pick, exs, R_ex, R_ev, stepEx, stepEv, evs, evp, bopV, ifsAll, tst, tstN, tstA, srcOf, nextS, bindT, bindU, parts, initR, back, subV, attrV, findS, atL, idx0, idx1, idx2, idx3, idx4, idxm, short, lim, methB, mkind, sameKind, V.und, undL, truthy, isNone, bB, bI, binV, rd, cmpV, eqV, inV, natOf2, natOf3, natOf5, slcV, optNat, mkTup, allD, mkList, setS, setA, small, callB, anyEq, deq, deqs, intEq_dec, strEq_dec, sok0, sok1, sok2, sok3, sok4, sok5, sok6, sok7, sok8, sok9, sok10, sok11, sok12, sok13, sok14, sok15, sok16, sok17, sok18, sok19, sok20, sok21, sok22, sok23, sok24, sok25, sok26, sok27, sok28, sok29, sok30, sok31, sok32, sok33, sok34, sok35, sok36, sok37, sok38, sok39, sok40, sok41, sok42, sok43, sok44, sok45, sok46, sok47, sok48, sok49, sok50, lay, PyData.canLay0, PyData.canLayAll0, PyData.depth, PyData.depthAll, mkDict, dspS, dspI, dspII, putS, ite_self]
theorem c221 {w : Str} {a1 a2 a3 b2 b3 : PyData} (hw : w = "binary" ∨ w = "checked") : (R (TT P) (n + 30)).call 221 [.d (.tuple [.str w, a1, a2, a3]), .d (.list [b2, b3])] h = some (.d (.tuple [.str w, a1, b2, b3]), h) := by
  rw [R_call _ _ _ _ _ (at_221 P)]
  rcases hw with rfl | rfl <;> simp (config := { decide := true }) [fn_221, run, bindArgs, pick, exs, R_ex, R_ev, stepEx, stepEv, evs, evp, bopV, ifsAll, tst, tstN, tstA, srcOf, nextS, bindT, bindU, parts, initR, back, subV, attrV, findS, atL, idx0, idx1, idx2, idx3, idx4, idxm, short, lim, methB, mkind, sameKind, V.und, undL, truthy, isNone, bB, bI, binV, rd, cmpV, eqV, inV, natOf2, natOf3, natOf5, slcV, optNat, mkTup, allD, mkList, setS, setA, small, callB, anyEq, deq, deqs, intEq_dec, strEq_dec, sok0, sok1, sok2, sok3, sok4, sok5, sok6, sok7, sok8, sok9, sok10, sok11, sok12, sok13, sok14, sok15, sok16, sok17, sok18, sok19, sok20, sok21, sok22, sok23, sok24, sok25, sok26, sok27, sok28, sok29, sok30, sok31, sok32, sok33, sok34, sok35, sok36, sok37, sok38, sok39, sok40, sok41, sok42, sok43, sok44, sok45, sok46, sok47, sok48, sok49, sok50, lay, PyData.canLay0, PyData.canLayAll0, PyData.depth, PyData.depthAll, mkDict, dspS, dspI, dspII, putS, ite_self]
theorem putr_chk {op : Str} {a2 a3 b2 b3 v : PyData} (F : FactsAt h f kf m) (C : ConsAt h c bo bl be fo k)
    (e : ∀ n, (R (TT P) (n + 100)).call 310 [.loc c, .d (rChk op a2 a3), .loc f] h = some (.d v, h))
    (p2 : ∀ n, (R (TT P) (n + 60)).call 376 [.loc c, .d a2, .loc f] h = some (.d b2, h)) (p3 : ∀ n, (R (TT P) (n + 60)).call 376 [.loc c, .d a3, .loc f] h = some (.d b3, h)) :
    (R (TT P) (n + 120)).call 381 [.loc c, .d (rChk op a2 a3), .d (pl 2), .loc f] h = some (.d (rChk op b2 b3), h) := by
  rw [R_call _ _ _ _ _ (at_381 P)]
  have e2 := fun n => c305l (P := P) (n := n) (w := "copy") (l := 2) C (.inl rfl) (by decide)
  have e3 := fun n => c214 (P := P) (n := n) (h := h) (w := "checked") (a1 := .str op) (a2 := a2) (a3 := a3) (.inr rfl)
  have e4 := fun n => c221 (P := P) (n := n) (h := h) (w := "checked") (a1 := .str op) (a2 := a2) (a3 := a3) (b2 := b2) (b3 := b3) (.inr rfl)
  obtain ⟨f1, f2⟩ := F
  obtain ⟨c1, c2, c3⟩ := C
  have k1 := cls273 (P := P)
  have k2 := cls396 (P := P)
  have hn : ∃ q, isNone (.d v) = some q := by cases v <;> exact ⟨_, rfl⟩
  obtain ⟨q, hq⟩ := hn
  unfold isNone at hq
  cases q <;> simp (config := { decide := true }) [fn_381, typeAt, f1, c1, k1, k2, e, e2, e3, e4, p2, p3, hq, compS, run, bindArgs, pick, exs, R_ex, R_ev, stepEx, stepEv, evs, evp, bopV, ifsAll, tst, tstN, tstA, srcOf, nextS, bindT, bindU, parts, initR, back, subV, attrV, findS, atL, idx0, idx1, idx2, idx3, idx4, idxm, short, lim, methB, mkind, sameKind, V.und, undL, truthy, isNone, bB, bI, binV, rd, cmpV, eqV, inV, natOf2, natOf3, natOf5, slcV, optNat, mkTup, allD, mkList, setS, setA, small, callB, anyEq, deq, deqs, intEq_dec, strEq_dec, sok0, sok1, sok2, sok3, sok4, sok5, sok6, sok7, sok8, sok9, sok10, sok11, sok12, sok13, sok14, sok15, sok16, sok17, sok18, sok19, sok20, sok21, sok22, sok23, sok24, sok25, sok26, sok27, sok28, sok29, sok30, sok31, sok32, sok33, sok34, sok35, sok36, sok37, sok38, sok39, sok40, sok41, sok42, sok43, sok44, sok45, sok46, sok47, sok48, sok49, sok50, lay, PyData.canLay0, PyData.canLayAll0, PyData.depth, PyData.depthAll, mkDict, dspS, dspI, dspII, putS, ite_self]
theorem puts_asg {l : Int} {rv rv' : PyData} (C : ConsAt h c bo bl be fo k) (e : ∀ n, (R (TT P) (n + 120)).call 381 [.loc c, .d rv, .d (pl l), .loc f] h = some (.d rv', h)) :
    (R (TT P) (n + 140)).call 388 [.loc c, .d (sAsg l rv), .loc f] h = some (.d (sAsg l rv'), h) := by
  rw [R_call _ _ _ _ _ (at_388 P)]
  obtain ⟨c1, c2, c3⟩ := C
  have k2 := cls396 (P := P)
  simp (config := { decide := true }) [fn_388, c1, k2, e, run, bindArgs, pick, exs, R_ex, R_ev, stepEx, stepEv, evs, evp, bopV, ifsAll, tst, tstN, tstA, srcOf, nextS, bindT, bindU, parts, initR, back, subV, attrV, findS, atL, idx0, idx1, idx2, idx3, idx4, idxm, short, lim, methB, mkind, sameKind, V.und, undL, truthy, isNone, bB, bI, binV, rd, cmpV, eqV, inV, natOf2, natOf3, natOf5, slcV, optNat, mkTup, allD, mkList, setS, setA, small, callB, anyEq, deq, deqs, intEq_dec, strEq_dec, sok0, sok1, sok2, sok3, sok4, sok5, sok6, sok7, sok8, sok9, sok10, sok11, sok12, sok13, sok14, sok15, sok16, sok17, sok18, sok19, sok20, sok21, sok22, sok23, sok24, sok25, sok26, sok27, sok28, sok29, sok30, sok31, sok32, sok33, sok34, sok35, sok36, sok37, sok38, sok39, sok40, sok41, sok42, sok43, sok44, sok45, sok46, sok47, sok48, sok49, sok50, lay, PyData.canLay0, PyData.canLayAll0, PyData.depth, PyData.depthAll, mkDict, dspS, dspI, dspII, putS, ite_self]
theorem puts_print {o o' : PyData} (C : ConsAt h c bo bl be fo k) (e : ∀ n, (R (TT P) (n + 60)).call 376 [.loc c, .d o, .loc f] h = some (.d o', h)) :
    (R (TT P) (n + 140)).call 388 [.loc c, .d (sPrint o), .loc f] h = some (.d (sPrint o'), h) := by
  rw [R_call _ _ _ _ _ (at_388 P)]
  obtain ⟨c1, c2, c3⟩ := C
  have k2 := cls396 (P := P)
  simp (config := { decide := true }) [fn_388, c1, k2, e, run, bindArgs, pick, exs, R_ex, R_ev, stepEx, stepEv, evs, evp, bopV, ifsAll, tst, tstN, tstA, srcOf, nextS, bindT, bindU, parts, initR, back, subV, attrV, findS, atL, idx0, idx1, idx2, idx3, idx4, idxm, short, lim, methB, mkind, sameKind, V.und, undL, truthy, isNone, bB, bI, binV, rd, cmpV, eqV, inV, natOf2, natOf3, natOf5, slcV, optNat, mkTup, allD, mkList, setS, setA, small, callB, anyEq, deq, deqs, intEq_dec, strEq_dec, sok0, sok1, sok2, sok3, sok4, sok5, sok6, sok7, sok8, sok9, sok10, sok11, sok12, sok13, sok14, sok15, sok16, sok17, sok18, sok19, sok20, sok21, sok22, sok23, sok24, sok25, sok26, sok27, sok28, sok29, sok30, sok31, sok32, sok33, sok34, sok35, sok36, sok37, sok38, sok39, sok40, sok41, sok42, sok43, sok44, sok45, sok46, sok47, sok48, sok49, sok50, lay, PyData.canLay0, PyData.canLayAll0, PyData.depth, PyData.depthAll, mkDict, dspS, dspI, dspII, putS, ite_self]
end Mine
end
section
open PySem PySem.W
set_option maxRecDepth 100000
set_option linter.unusedSimpArgs false
set_option linter.unusedVariables false
set_option linter.unusedSectionVars false
namespace Mine
variable {P : Params} {n : Nat} {h : List O} {k : Str} {lo : Int} {b : Nat} {f kf c bo bl be fo : Nat} {m : List (Int × PyData)}
abbrev tAs (o : PyData) (w : Str) (g : Int) : PyData := .tuple [.str "assert", o, .bool false, .str w, .int g]
abbrev tRet : PyData := .tuple [.str "return"]
abbrev tGo (g : Int) : PyData := .tuple [.str "goto", .int g]
section
variable {o : PyData} {w : Str} {g : Int} (F : FactsAt h f kf m) (C : ConsAt h c bo bl be fo k)
include F C
theorem c357a (e : ∀ n, (R (TT P) (n + 40)).call 263 [.loc f, .d o] h = some (.d (.bool false), h)) : (R (TT P) (n + 60)).call 357 [.loc c, .d (tAs o w g), .loc f] h = some (.d (.int g), h) := by
  rw [R_call _ _ _ _ _ (at_357 P)]
  obtain ⟨f1, f2⟩ := F
  have k1 := cls273 (P := P)
  simp (config := { decide := true }) [fn_357, f1, k1, e, forS, run, bindArgs, pick, exs, R_ex, R_ev, stepEx, stepEv, evs, evp, bopV, ifsAll, tst, tstN, tstA, srcOf, nextS, bindT, bindU, parts, initR, back, subV, attrV, findS, atL, idx0, idx1, idx2, idx3, idx4, idxm, short, lim, methB, mkind, sameKind, V.und, undL, truthy, isNone, bB, bI, binV, rd, cmpV, eqV, inV, natOf2, natOf3, natOf5, slcV, optNat, mkTup, allD, mkList, setS, setA, small, callB, anyEq, deq, deqs, intEq_dec, strEq_dec, sok0, sok1, sok2, sok3, sok4, sok5, sok6, sok7, sok8, sok9, sok10, sok11, sok12, sok13, sok14, sok15, sok16, sok17, sok18, sok19, sok20, sok21, sok22, sok23, sok24, sok25, sok26, sok27, sok28, sok29, sok30, sok31, sok32, sok33, sok34, sok35, sok36, sok37, sok38, sok39, sok40, sok41, sok42, sok43, sok44, sok45, sok46, sok47, sok48, sok49, sok50, lay, PyData.canLay0, PyData.canLayAll0, PyData.depth, PyData.depthAll, mkDict, dspS, dspI, dspII, putS, ite_self]
theorem c357b {z : PyData} (hz : z = .bool true ∨ z = .none) (e : ∀ n, (R (TT P) (n + 40)).call 263 [.loc f, .d o] h = some (.d z, h)) : (R (TT P) (n + 60)).call 357 [.loc c, .d (tAs o w g), .loc f] h = some (.d .none, h) := by
  rw [R_call _ _ _ _ _ (at_357 P)]
  obtain ⟨f1, f2⟩ := F
  have k1 := cls273 (P := P)
  rcases hz with rfl | rfl <;> simp (config := { decide := true }) [fn_357, f1, k1, e, forS, run, bindArgs, pick, exs, R_ex, R_ev, stepEx, stepEv, evs, evp, bopV, ifsAll, tst, tstN, tstA, srcOf, nextS, bindT, bindU, parts, initR, back, subV, attrV, findS, atL, idx0, idx1, idx2, idx3, idx4, idxm, short, lim, methB, mkind, sameKind, V.und, undL, truthy, isNone, bB, bI, binV, rd, cmpV, eqV, inV, natOf2, natOf3, natOf5, slcV, optNat, mkTup, allD, mkList, setS, setA, small, callB, anyEq, deq, deqs, intEq_dec, strEq_dec, sok0, sok1, sok2, sok3, sok4, sok5, sok6, sok7, sok8, sok9, sok10, sok11, sok12, sok13, sok14, sok15, sok16, sok17, sok18, sok19, sok20, sok21, sok22, sok23, sok24, sok25, sok26, sok27, sok28, sok29, sok30, sok31, sok32, sok33, sok34, sok35, sok36, sok37, sok38, sok39, sok40, sok41, sok42, sok43, sok44, sok45, sok46, sok47, sok48, sok49, sok50, lay, PyData.canLay0, PyData.canLayAll0, PyData.depth, PyData.depthAll, mkDict, dspS, dspI, dspII, putS, ite_self]
theorem c357r : (R (TT P) (n + 60)).call 357 [.loc c, .d tRet, .loc f] h = some (.d .none, h) := by
  rw [R_call _ _ _ _ _ (at_357 P)]
  simp (config := { decide := true }) [fn_357, forS, run, bindArgs, pick, exs, R_ex, R_ev, stepEx, stepEv, evs, evp, bopV, ifsAll, tst, tstN, tstA, srcOf, nextS, bindT, bindU, parts, initR, back, subV, attrV, findS, atL, idx0, idx1, idx2, idx3, idx4, idxm, short, lim, methB, mkind, sameKind, V.und, undL, truthy, isNone, bB, bI, binV, rd, cmpV, eqV, inV, natOf2, natOf3, natOf5, slcV, optNat, mkTup, allD, mkList, setS, setA, small, callB, anyEq, deq, deqs, intEq_dec, strEq_dec, sok0, sok1, sok2, sok3, sok4, sok5, sok6, sok7, sok8, sok9, sok10, sok11, sok12, sok13, sok14, sok15, sok16, sok17, sok18, sok19, sok20, sok21, sok22, sok23, sok24, sok25, sok26, sok27, sok28, sok29, sok30, sok31, sok32, sok33, sok34, sok35, sok36, sok37, sok38, sok39, sok40, sok41, sok42, sok43, sok44, sok45, sok46, sok47, sok48, sok49, sok50, lay, PyData.canLay0, PyData.canLayAll0, PyData.depth, PyData.depthAll, mkDict, dspS, dspI, dspII, putS, ite_self]
theorem c393a (e : ∀ n, (R (TT P) (n + 40)).call 263 [.loc f, .d o] h = some (.d (.bool false), h)) : (R (TT P) (n + 80)).call 393 [.loc c, .d (tAs o w g), .loc f] h = some (.d (tGo g), h) := by
  have e1 := fun n => c357a (P := P) (n := n) (w := w) (g := g) F C e
  rw [R_call _ _ _ _ _ (at_393 P)]
  obtain ⟨c1, c2, c3⟩ := C
  have k2 := cls396 (P := P)
  simp (config := { decide := true }) [fn_393, c1, k2, e1, run, bindArgs, pick, exs, R_ex, R_ev, stepEx, stepEv, evs, evp, bopV, ifsAll, tst, tstN, tstA, srcOf, nextS, bindT, bindU, parts, initR, back, subV, attrV, findS, atL, idx0, idx1, idx2, idx3, idx4, idxm, short, lim, methB, mkind, sameKind, V.und, undL, truthy, isNone, bB, bI, binV, rd, cmpV, eqV, inV, natOf2, natOf3, natOf5, slcV, optNat, mkTup, allD, mkList, setS, setA, small, callB, anyEq, deq, deqs, intEq_dec, strEq_dec, sok0, sok1, sok2, sok3, sok4, sok5, sok6, sok7, sok8, sok9, sok10, sok11, sok12, sok13, sok14, sok15, sok16, sok17, sok18, sok19, sok20, sok21, sok22, sok23, sok24, sok25, sok26, sok27, sok28, sok29, sok30, sok31, sok32, sok33, sok34, sok35, sok36, sok37, sok38, sok39, sok40, sok41, sok42, sok43, sok44, sok45, sok46, sok47, sok48, sok49, sok50, lay, PyData.canLay0, PyData.canLayAll0, PyData.depth, PyData.depthAll, mkDict, dspS, dspI, dspII, putS, ite_self]
theorem c393b {z o' : PyData} (hz : z = .bool true ∨ z = .none) (e : ∀ n, (R (TT P) (n + 40)).call 263 [.loc f, .d o] h = some (.d z, h)) (p : ∀ n, (R (TT P) (n + 60)).call 376 [.loc c, .d o, .loc f] h = some (.d o', h)) :
    (R (TT P) (n + 80)).call 393 [.loc c, .d (tAs o w g), .loc f] h = some (.d (tAs o' w g), h) := by
  have e1 := fun n => c357b (P := P) (n := n) (w := w) (g := g) F C hz e
  rw [R_call _ _ _ _ _ (at_393 P)]
  obtain ⟨c1, c2, c3⟩ := C
  have k2 := cls396 (P := P)
  simp (config := { decide := true }) [fn_393, c1, k2, e1, p, run, bindArgs, pick, exs, R_ex, R_ev, stepEx, stepEv, evs, evp, bopV, ifsAll, tst, tstN, tstA, srcOf, nextS, bindT, bindU, parts, initR, back, subV, attrV, findS, atL, idx0, idx1, idx2, idx3, idx4, idxm, short, lim, methB, mkind, sameKind, V.und, undL, truthy, isNone, bB, bI, binV, rd, cmpV, eqV, inV, natOf2, natOf3, natOf5, slcV, optNat, mkTup, allD, mkList, setS, setA, small, callB, anyEq, deq, deqs, intEq_dec, strEq_dec, sok0, sok1, sok2, sok3, sok4, sok5, sok6, sok7, sok8, sok9, sok10, sok11, sok12, sok13, sok14, sok15, sok16, sok17, sok18, sok19, sok20, sok21, sok22, sok23, sok24, sok25, sok26, sok27, sok28, sok29, sok30, sok31, sok32, sok33, sok34, sok35, sok36, sok37, sok38, sok39, sok40, sok41, sok42, sok43, sok44, sok45, sok46, sok47, sok48, sok49, sok50, lay, PyData.canLay0, PyData.canLayAll0, PyData.depth, PyData.depthAll, mkDict, dspS, dspI, dspII, putS, ite_self]
theorem c393r : (R (TT P) (n + 80)).call 393 [.loc c, .d tRet, .loc f] h = some (.d tRet, h) := by
  have e1 := fun n => c357r (P := P) (n := n) F C
  rw [R_call _ _ _ _ _ (at_393 P)]
  obtain ⟨c1, c2, c3⟩ := C
  have k2 := cls396 (P := P)
  simp (config := { decide := true }) [fn_393, c1, k2, e1, run, bindArgs, pick, exs, R_ex, R_ev, stepEx, stepEv, evs, evp, bopV, ifsAll, tst, tstN, tstA, srcOf, nextS, bindT, bindU, parts, initR, back, subV, attrV, findS, atL, idx0, idx1, idx2, idx3, idx4, idxm, short, lim, methB, mkind, sameKind, V.und, undL, truthy, isNone, bB, bI, binV, rd, cmpV, eqV, inV, natOf2, natOf3, natOf5, slcV, optNat, mkTup, allD, mkList, setS, setA, small, callB, anyEq, deq, deqs, intEq_dec, strEq_dec, sok0, sok1, sok2, sok3, sok4, sok5, sok6, sok7, sok8, sok9, sok10, sok11, sok12, sok13, sok14, sok15, sok16, sok17, sok18, sok19, sok20, sok21, sok22, sok23, sok24, sok25, sok26, sok27, sok28, sok29, sok30, sok31, sok32, sok33, sok34, sok35, sok36, sok37, sok38, sok39, sok40, sok41, sok42, sok43, sok44, sok45, sok46, sok47, sok48, sok49, sok50, lay, PyData.canLay0, PyData.canLayAll0, PyData.depth, PyData.depthAll, mkDict, dspS, dspI, dspII, putS, ite_self]
end
/-! blocks behind a terminator -/
def OkH (h : List O) : Prop := undH h.length h.length h = true
theorem undH_app {a : Nat} : ∀ {k : Nat} {h t : List O}, k ≤ h.length → undH a k (h ++ t) = undH a k h
  | 0, h, t, _ => by cases h <;> cases t <;> rfl
  | k + 1, [], t, hk => by simp at hk
  | k + 1, x :: h, t, hk => by
    show (x.und a && undH a k (h ++ t)) = (x.und a && undH a k h)
    rw [undH_app (by simpa using hk)]
theorem c202 {o : PyData} {w : Str} {g : Int} (hh : OkH h) : (R (TT P) (n + 40)).call 202 [.d (tAs o w g)] h = some (.d (.list [.int g]), h) := by
  rw [R_call _ _ _ _ _ (at_202 P)]
  have u1 : ∀ x : O, undH h.length h.length (h ++ [x]) = true := fun x => (undH_app (Nat.le_refl _)).trans hh
  have g1 : ∀ x : O, (h ++ [x])[h.length]? = some x := fun x => by simp
  have s1 : ∀ x y : O, (h ++ [x]).set h.length y = h ++ [y] := fun x y => by simp
  have t1 : ∀ x : O, List.take h.length (h ++ [x]) = h := fun x => by simp
  simp (config := { decide := true }) [fn_202, forS, cutTo, u1, g1, s1, t1, run, bindArgs, pick, exs, R_ex, R_ev, stepEx, stepEv, evs, evp, bopV, ifsAll, tst, tstN, tstA, srcOf, nextS, bindT, bindU, parts, initR, back, subV, attrV, findS, atL, idx0, idx1, idx2, idx3, idx4, idxm, short, lim, methB, mkind, sameKind, V.und, undL, truthy, isNone, bB, bI, binV, rd, cmpV, eqV, inV, natOf2, natOf3, natOf5, slcV, optNat, mkTup, allD, mkList, setS, setA, small, callB, anyEq, deq, deqs, intEq_dec, strEq_dec, sok0, sok1, sok2, sok3, sok4, sok5, sok6, sok7, sok8, sok9, sok10, sok11, sok12, sok13, sok14, sok15, sok16, sok17, sok18, sok19, sok20, sok21, sok22, sok23, sok24, sok25, sok26, sok27, sok28, sok29, sok30, sok31, sok32, sok33, sok34, sok35, sok36, sok37, sok38, sok39, sok40, sok41, sok42, sok43, sok44, sok45, sok46, sok47, sok48, sok49, sok50, lay, PyData.canLay0, PyData.canLayAll0, PyData.depth, PyData.depthAll, mkDict, dspS, dspI, dspII, putS, ite_self]
theorem c202r (hh : OkH h) : (R (TT P) (n + 40)).call 202 [.d tRet] h = some (.d (.list []), h) := by
  rw [R_call _ _ _ _ _ (at_202 P)]
  have u1 : ∀ x : O, undH h.length h.length (h ++ [x]) = true := fun x => (undH_app (Nat.le_refl _)).trans hh
  have g1 : ∀ x : O, (h ++ [x])[h.length]? = some x := fun x => by simp
  have s1 : ∀ x y : O, (h ++ [x]).set h.length y = h ++ [y] := fun x y => by simp
  have t1 : ∀ x : O, List.take h.length (h ++ [x]) = h := fun x => by simp
  simp (config := { decide := true }) [fn_202, forS, cutTo, u1, g1, s1, t1, run, bindArgs, pick, exs, R_ex, R_ev, stepEx, stepEv, evs, evp, bopV, ifsAll, tst, tstN, tstA, srcOf, nextS, bindT, bindU, parts, initR, back, subV, attrV, findS, atL, idx0, idx1, idx2, idx3, idx4, idxm, short, lim, methB, mkind, sameKind, V.und, undL, truthy, isNone, bB, bI, binV, rd, cmpV, eqV, inV, natOf2, natOf3, natOf5, slcV, optNat, mkTup, allD, mkList, setS, setA, small, callB, anyEq, deq, deqs, intEq_dec, strEq_dec, sok0, sok1, sok2, sok3, sok4, sok5, sok6, sok7, sok8, sok9, sok10, sok11, sok12, sok13, sok14, sok15, sok16, sok17, sok18, sok19, sok20, sok21, sok22, sok23, sok24, sok25, sok26, sok27, sok28, sok29, sok30, sok31, sok32, sok33, sok34, sok35, sok36, sok37, sok38, sok39, sok40, sok41, sok42, sok43, sok44, sok45, sok46, sok47, sok48, sok49, sok50, lay, PyData.canLay0, PyData.canLayAll0, PyData.depth, PyData.depthAll, mkDict, dspS, dspI, dspII, putS, ite_self]
end Mine
end
section
open PySem PySem.W
set_option maxRecDepth 100000
set_option linter.unusedSimpArgs false
set_option linter.unusedVariables false
set_option linter.unusedSectionVars false
namespace Mine
variable {P : Params} {n : Nat} {h : List O} {k : Str} {lo : Int} {b : Nat} {f kf c bo bl be fo : Nat} {m : List (Int × PyData)}
/-- what a statement becomes, and what is known behind it -/
inductive SR (k : Str) (lo : Int) (b : Nat) : List (Int × PyData) → PyData → PyData → List (Int × PyData) → Prop
  | con (v : Int) (m) : SR k lo b m (sAsg 1 (rUse (cI k v))) (sAsg 1 (rUse (cI k v))) (putI 1 (.int v) (dropI 1 m))
  | eq0 (o : Int) (m) : SR k lo b m (sAsg 3 (rBin "==" (cI k o) (cI k 0))) (sAsg 3 (rUse (cB (decide (o = 0))))) (putI 3 (.bool (decide (o = 0))) (dropI 3 m))
  | chk (op : Str) (o v : Int) (m) : findI 1 m = some (.int v) → isOp op → small o = true → (o ≠ 0 ∨ (op ≠ "/" ∧ op ≠ "%")) →
      SR k lo b m (sAsg 2 (rChk op opX (cI k o))) (sAsg 2 (rChk op (cI k v) (cI k o))) (putI 2 (.tuple [.int (wrapS lo b (wholeS op b v o)), .bool (overS op lo b v o)]) (dropI 2 m))
  | chkz (op : Str) (v : Int) (m) : findI 1 m = some (.int v) → (op = "/" ∨ op = "%") → SR k lo b m (sAsg 2 (rChk op opX (cI k 0))) (sAsg 2 (rChk op (cI k v) (cI k 0))) (dropI 2 m)
  | mov (v : Int) (w : PyData) (m) : findI 2 m = some (.tuple [.int v, w]) → SR k lo b m (sAsg 1 (rUse opM2)) (sAsg 1 (rUse (cI k v))) (putI 1 (.int v) (dropI 1 m))
  | prt (v : Int) (m) : findI 1 m = some (.int v) → SR k lo b m (sPrint opX) (sPrint (cI k v)) m
  | cast (v : Int) (m) : findI 1 m = some (.int v) → SR k lo b m (sAsg 4 (rCast opX)) (sAsg 4 (rUse (cI "i32" (wrapS (-2147483648) 32 v)))) (putI 4 (.int (wrapS (-2147483648) 32 v)) (dropI 4 m))
  | un (op : Str) (v : Int) (m) : findI 1 m = some (.int v) → (op = "!" ∨ op = "-") → SR k lo b m (sAsg 0 (rUn op opX)) (sAsg 0 (rUse (cI k (wrapS lo b (if op = "!" then -1 - v else -v))))) (putI 0 (.int (wrapS lo b (if op = "!" then -1 - v else -v))) (dropI 0 m))
  | cmp (op : Str) (v : Int) (m) : findI 1 m = some (.int v) → isCmp op → SR k lo b m (sAsg 3 (rBin op opX (cI k 3))) (sAsg 3 (rUse (cB (relS op v 3)))) (putI 3 (.bool (relS op v 3)) (dropI 3 m))
theorem dropI_len {l : Int} : ∀ {m : List (Int × PyData)}, (dropI l m).length ≤ m.length
  | [] => Nat.le_refl _
  | (j, x) :: m => by
    unfold dropI
    split
    · exact Nat.le_succ _
    · simpa using dropI_len
theorem putI_len' {l : Int} {v : PyData} : ∀ {m : List (Int × PyData)}, (putI l v m).length ≤ m.length + 1
  | [] => Nat.le_refl _
  | (j, x) :: m => by
    unfold putI
    split
    · simp
    · have := putI_len' (l := l) (v := v) (m := m); simp; omega
section
variable (K : isKind k lo b) (F : FactsAt h f kf m) (C : ConsAt h c bo bl be fo k)
include F in
theorem opnd_const {v : Int} : ∀ n, (R (TT P) (n + 40)).call 263 [.loc f, .d (cI k v)] h = some (.d (.int v), h) := fun n => by
  rw [R_call _ _ _ _ _ (at_263 P)]
  simp (config := { decide := true }) [fn_263, run, bindArgs, pick, exs, R_ex, R_ev, stepEx, stepEv, evs, evp, bopV, ifsAll, tst, tstN, tstA, srcOf, nextS, bindT, bindU, parts, initR, back, subV, attrV, findS, atL, idx0, idx1, idx2, idx3, idx4, idxm, short, lim, methB, mkind, sameKind, V.und, undL, truthy, isNone, bB, bI, binV, rd, cmpV, eqV, inV, natOf2, natOf3, natOf5, slcV, optNat, mkTup, allD, mkList, setS, setA, small, callB, anyEq, deq, deqs, intEq_dec, strEq_dec, sok0, sok1, sok2, sok3, sok4, sok5, sok6, sok7, sok8, sok9, sok10, sok11, sok12, sok13, sok14, sok15, sok16, sok17, sok18, sok19, sok20, sok21, sok22, sok23, sok24, sok25, sok26, sok27, sok28, sok29, sok30, sok31, sok32, sok33, sok34, sok35, sok36, sok37, sok38, sok39, sok40, sok41, sok42, sok43, sok44, sok45, sok46, sok47, sok48, sok49, sok50, lay, PyData.canLay0, PyData.canLayAll0, PyData.depth, PyData.depthAll, mkDict, dspS, dspI, dspII, putS, ite_self]
include F in
theorem opnd_x {v : Int} (hv : findI 1 m = some (.int v)) : ∀ n, (R (TT P) (n + 40)).call 263 [.loc f, .d opX] h = some (.d (.int v), h) := fun n =>
  c263p (n := n + 10) (w := "copy") (.inl rfl) F (fun n => by rw [c256a F, hv]; rfl) ⟨_, rfl⟩
include K F C
theorem sr_value {m' : List (Int × PyData)} {l : Int} {rv s' : PyData} (r : SR k lo b m (sAsg l rv) s' m') : (∃ v, isNone (.d v) = some false ∧ m' = putI l v (dropI l m) ∧ (l = 0 ∨ l = 1 ∨ l = 2 ∨ l = 3 ∨ l = 4) ∧ ∀ n, (R (TT P) (n + 100)).call 310 [.loc c, .d rv, .loc f] h = some (.d v, h)) ∨
    (m' = dropI l m ∧ l = 2 ∧ ∀ n, (R (TT P) (n + 100)).call 310 [.loc c, .d rv, .loc f] h = some (.d .none, h)) := by
  have tX : ∀ n, (R (TT P) (n + 40)).call 305 [.loc c, .d opX] h = some (.d (tI k), h) := fun n => c305l (n := n + 10) (w := "copy") (l := 1) C (.inl rfl) (by decide)
  have tK : ∀ v n, (R (TT P) (n + 40)).call 305 [.loc c, .d (cI k v)] h = some (.d (tI k), h) := fun v n => c305k (n := n + 20)
  cases r with
  | con v => exact .inl ⟨_, rfl, rfl, by decide, fun n => c310u (n := n + 40) F C (opnd_const F)⟩
  | eq0 o => exact .inl ⟨_, rfl, rfl, by decide, fun n => c310t F C (.inl rfl) fun n => c317b (n := n + 20) F C K (opnd_const F) (opnd_const F) (tK o) (.inl rfl)⟩
  | chk op o v _ h1 h2 h3 h4 => exact .inl ⟨_, rfl, rfl, by decide, fun n => c310t F C (.inr rfl) fun n => c317c F C K (opnd_x F h1) (opnd_const F) tX h2 h3 h4⟩
  | chkz op v _ h1 h2 => exact .inr ⟨rfl, rfl, fun n => c310t F C (.inr rfl) fun n => c317z F C K (opnd_x F h1) (opnd_const F) tX h2 rfl⟩
  | mov v w _ h1 => exact .inl ⟨_, rfl, rfl, by decide, fun n => c310u (n := n + 40) F C fun n => c263p (n := n + 10) (w := "move") (.inr rfl) F (fun n => c256b F h1 (.inl rfl)) ⟨_, rfl⟩⟩
  | cast v _ h1 => exact .inl ⟨_, rfl, rfl, by decide, fun n => c310c F C fun n => c331 (n := n + 20) F C K (opnd_x F h1) tX⟩
  | un op v _ h1 h2 => exact .inl ⟨_, rfl, rfl, by decide, fun n => c310n F C fun n => c324 (n := n + 20) F C K (opnd_x F h1) tX h2⟩
  | cmp op v _ h1 h2 => exact .inl ⟨_, rfl, rfl, by decide, fun n => c310t F C (.inl rfl) fun n => c317b (n := n + 20) F C K (opnd_x F h1) (opnd_const F) tX (.inr h2)⟩
end
end Mine
end
section
open PySem PySem.W
set_option maxRecDepth 100000
set_option linter.unusedSimpArgs false
set_option linter.unusedVariables false
set_option linter.unusedSectionVars false
namespace Mine
variable {P : Params} {n : Nat} {h : List O} {k : Str} {lo : Int} {b : Nat} {f kf c bo bl be fo : Nat} {m m' : List (Int × PyData)} {s s' : PyData}
theorem SR.asg (r : SR k lo b m s s' m') : (∃ l rv, s = sAsg l rv) ∨ ∃ v, s = sPrint opX ∧ s' = sPrint (cI k v) ∧ m' = m ∧ findI 1 m = some (.int v) := by
  cases r with
  | prt v _ h1 => exact .inr ⟨v, rfl, rfl, rfl, h1⟩
  | _ => exact .inl ⟨_, _, rfl⟩
theorem SR.len (r : SR k lo b m s s' m') : m'.length ≤ m.length + 1 := by
  have d : ∀ l v, (putI l v (dropI l m)).length ≤ m.length + 1 := fun l v => by
    have h1 := putI_len' (l := l) (v := v) (m := dropI l m)
    have h2 := dropI_len (l := l) (m := m)
    omega
  cases r <;> first | exact d _ _ | exact Nat.le_trans dropI_len (Nat.le_succ _) | exact Nat.le_succ _
section
variable (K : isKind k lo b) (F : FactsAt h f kf m) (C : ConsAt h c bo bl be fo k)
include K F C
theorem sr_step (hne : kf ≠ fo) (hl : m.length ≤ 900) (r : SR k lo b m s s' m') : (R (TT P) (n + 120)).call 338 [.loc c, .d s, .loc f] h = some (.d .none, h.set kf (.idict m')) := by
  rcases r.asg with ⟨l, rv, rfl⟩ | ⟨v, rfl, rfl, rfl, h1⟩
  · rcases sr_value K F C r with ⟨v, hv, rfl, hi, e⟩ | ⟨rfl, rfl, e⟩
    · exact step_asg F C hne (by omega) (by have := dropI_len (l := l) (m := m); omega) hi e hv
    · exact step_none F C (by omega) e
  · have hk := (List.getElem?_eq_some_iff.mp F.b)
    have : h.set kf (.idict m') = h := by
      apply List.ext_getElem?
      intro i
      rw [List.getElem?_set]
      split
      · rename_i e; subst e; rw [if_pos hk.1]; exact F.b.symm
      · rfl
    rw [this]
    exact step_print
theorem sr_puts (r : SR k lo b m s s' m') : (R (TT P) (n + 140)).call 388 [.loc c, .d s, .loc f] h = some (.d s', h) := by
  have v0 := fun {l : Int} {rv s' : PyData} (r : SR k lo b m (sAsg l rv) s' m') => sr_value (P := P) K F C r
  have tX : ∀ n, (R (TT P) (n + 40)).call 305 [.loc c, .d opX] h = some (.d (tI k), h) := fun n => c305l (n := n + 10) (w := "copy") (l := 1) C (.inl rfl) (by decide)
  have pX : ∀ {v : Int}, findI 1 m = some (.int v) → ∀ n, (R (TT P) (n + 60)).call 376 [.loc c, .d opX, .loc f] h = some (.d (cI k v), h) := fun h1 n => put_known (.inl rfl) K F C (.inl rfl) (opnd_x F h1) tX rfl
  have known : ∀ {l : Int} {rv v : PyData}, (l = 0 ∨ l = 1 ∨ l = 3 ∨ l = 4) → isNone (.d v) = some false → (∀ n, (R (TT P) (n + 100)).call 310 [.loc c, .d rv, .loc f] h = some (.d v, h)) →
      (R (TT P) (n + 140)).call 388 [.loc c, .d (sAsg l rv), .loc f] h = some (.d (sAsg l (rUse (.tuple [.str "const", typeAt k l, v]))), h) := fun hl hv e => puts_asg C fun n => putr_known K F C hl e hv
  have tK : ∀ v n, (R (TT P) (n + 40)).call 305 [.loc c, .d (cI k v)] h = some (.d (tI k), h) := fun v n => c305k (n := n + 20)
  cases r with
  | prt v _ h1 => exact puts_print C (pX h1)
  | con v => exact known (l := 1) (by decide) rfl (fun n => c310u (n := n + 40) F C (opnd_const F))
  | eq0 o => exact known (l := 3) (v := .bool (decide (o = 0))) (by decide) rfl (fun n => c310t F C (.inl rfl) fun n => c317b (n := n + 20) F C K (opnd_const F) (opnd_const F) (tK o) (.inl rfl))
  | chk op o v _ h1 h2 h3 h4 => exact puts_asg C fun n => putr_chk F C (fun n => c310t F C (.inr rfl) fun n => c317c F C K (opnd_x F h1) (opnd_const F) tX h2 h3 h4) (pX h1) (fun n => put_const)
  | chkz op v _ h1 h2 => exact puts_asg C fun n => putr_chk F C (fun n => c310t F C (.inr rfl) fun n => c317z F C K (opnd_x F h1) (opnd_const F) tX h2 rfl) (pX h1) (fun n => put_const)
  | mov v w _ h1 => exact known (l := 1) (by decide) rfl (fun n => c310u (n := n + 40) F C fun n => c263p (n := n + 10) (w := "move") (.inr rfl) F (fun n => c256b F h1 (.inl rfl)) ⟨_, rfl⟩)
  | cast v _ h1 => exact known (l := 4) (by decide) rfl (fun n => c310c F C fun n => c331 (n := n + 20) F C K (opnd_x F h1) tX)
  | un op v _ h1 h2 => exact known (l := 0) (by decide) rfl (fun n => c310n F C fun n => c324 (n := n + 20) F C K (opnd_x F h1) tX h2)
  | cmp op v _ h1 h2 => exact known (l := 3) (by decide) rfl (fun n => c310t F C (.inl rfl) fun n => c317b (n := n + 20) F C K (opnd_x F h1) (opnd_const F) tX (.inr h2))
end
/-- facts and constants over a change of what is known -/
theorem FactsAt.set (F : FactsAt h f kf m) (m' : List (Int × PyData)) : FactsAt (h.set kf (.idict m')) f kf m' := by
  have hk := (List.getElem?_eq_some_iff.mp F.b).1
  exact ⟨by rw [List.getElem?_set, if_neg F.ne.symm]; exact F.a, by rw [List.getElem?_set]; simp [hk]⟩
theorem ConsAt.set (C : ConsAt h c bo bl be fo k) (F : FactsAt h f kf m) (hne : kf ≠ fo) (m' : List (Int × PyData)) : ConsAt (h.set kf (.idict m')) c bo bl be fo k := by
  obtain ⟨n1, n2⟩ := C.ne F
  exact ⟨by rw [List.getElem?_set, if_neg n1.symm]; exact C.a, by rw [List.getElem?_set, if_neg n2.symm]; exact C.b, by rw [List.getElem?_set, if_neg hne]; exact C.f⟩
/-- the statements of a block -/
inductive SRs (k : Str) (lo : Int) (b : Nat) : List (Int × PyData) → List PyData → List PyData → List (Int × PyData) → Prop
  | nil (q : List (Int × PyData)) : SRs k lo b q [] [] q
  | cons {q q' q'' : List (Int × PyData)} {x x' : PyData} {xs xs' : List PyData} : SR k lo b q x x' q' → SRs k lo b q' xs xs' q'' → SRs k lo b q (x :: xs) (x' :: xs') q''
end Mine
end
section
open PySem PySem.W
set_option maxRecDepth 100000
set_option linter.unusedSimpArgs false
set_option linter.unusedVariables false
set_option linter.unusedSectionVars false
namespace Mine
variable {P : Params} {n : Nat} {h : List O} {k : Str} {lo : Int} {b : Nat} {f kf c bo bl be fo : Nat} {m m' : List (Int × PyData)} {s s' : PyData}
theorem undH_split {a : Nat} : ∀ {h t : List O} {j : Nat}, undH a (h.length + j) (h ++ t) = (undH a h.length h && undH a j t)
  | [], t, j => by simp [undH]
  | x :: h, t, j => by
    have e : (x :: h).length + j = (h.length + j) + 1 := by simp; omega
    rw [e]
    show (x.und a && undH a (h.length + j) (h ++ t)) = ((x.und a && undH a h.length h) && undH a j t)
    rw [undH_split, Bool.and_assoc]
abbrev factsO (i : Nat) (m : List (Int × PyData)) : List O := [.attrs 273 [("known", .loc i)], .idict m]
theorem c249 (hl : m.length ≤ 1000000) : (R (TT P) (n + 20)).call 249 [.loc h.length, .idict m] (h ++ [.attrs 273 []]) = some (.d .none, h ++ factsO (h.length + 1) m) := by
  rw [R_call _ _ _ _ _ (at_249 P)]
  have g1 : ∀ x y : O, (h ++ [x, y])[h.length]? = some x := fun x y => by simp
  have g2 : ∀ x : O, (h ++ [x]).length = h.length + 1 := fun x => by simp
  have s1 : ∀ x y z : O, (h ++ [x, y]).set h.length z = h ++ [z, y] := fun x y z => by simp
  have u1 : undH (h.length + 1) (h.length + 1) (h ++ factsO (h.length + 1) m) = false := by
    rw [undH_split]
    have : undH (h.length + 1) 1 (factsO (h.length + 1) m) = false := by
      unfold factsO undH O.und undA V.und
      simp
    rw [this, Bool.and_false]
  unfold factsO at *
  simp (config := { decide := true }) [fn_249, hl, g1, g2, s1, u1, run, bindArgs, pick, exs, R_ex, R_ev, stepEx, stepEv, evs, evp, bopV, ifsAll, tst, tstN, tstA, srcOf, nextS, bindT, bindU, parts, initR, back, subV, attrV, findS, atL, idx0, idx1, idx2, idx3, idx4, idxm, short, lim, methB, mkind, sameKind, V.und, undL, truthy, isNone, bB, bI, binV, rd, cmpV, eqV, inV, natOf2, natOf3, natOf5, slcV, optNat, mkTup, allD, mkList, setS, setA, small, callB, anyEq, deq, deqs, intEq_dec, strEq_dec, sok0, sok1, sok2, sok3, sok4, sok5, sok6, sok7, sok8, sok9, sok10, sok11, sok12, sok13, sok14, sok15, sok16, sok17, sok18, sok19, sok20, sok21, sok22, sok23, sok24, sok25, sok26, sok27, sok28, sok29, sok30, sok31, sok32, sok33, sok34, sok35, sok36, sok37, sok38, sok39, sok40, sok41, sok42, sok43, sok44, sok45, sok46, sok47, sok48, sok49, sok50, lay, PyData.canLay0, PyData.canLayAll0, PyData.depth, PyData.depthAll, mkDict, dspS, dspI, dspII, putS, ite_self]
end Mine
end
section
open PySem PySem.W
set_option maxRecDepth 100000
set_option linter.unusedSimpArgs false
set_option linter.unusedVariables false
set_option linter.unusedSectionVars false
namespace Mine
variable {P : Params} {n : Nat} {h : List O} {k : Str} {lo : Int} {b : Nat} {f kf c bo bl be fo : Nat} {m m' : List (Int × PyData)} {s s' : PyData}
theorem set_set' {h : List O} {i : Nat} {x y : O} : (h.set i x).set i y = h.set i y := by simp
theorem steps_for (K : isKind k lo b) {num term : PyData} {all : List PyData} {N q : Nat} : ∀ {m m' : List (Int × PyData)} {ss ss' : List PyData}, SRs k lo b m ss ss' m' → ∀ {h : List O} {pre : List PyData} {b0 : Nat} {x5 x6 : Option V},
    FactsAt h f kf m → ConsAt h c bo bl be fo k → kf ≠ fo → h.length = N → m.length + ss.length ≤ 800 → all = pre ++ ss →
    ∃ b1 y5, forS (R (TT P) (q + 130)) N (.one 5) [.expr (.methI "step" (.var 0) [.var 5, .var 2])] (.vals (all.map .d)) (ss.length + 1) pre.length ⟨b0, h, [some (.loc c), some (.d num), some (.loc f), some (.d (.list all)), some (.d term), x5, x6]⟩ =
      some (.next, ⟨b1, h.set kf (.idict m'), [some (.loc c), some (.d num), some (.loc f), some (.d (.list all)), some (.d term), y5, x6]⟩) := by
  intro m m' ss ss' r
  induction r with
  | nil q' =>
    intro h pre b0 x5 x6 F C hne hN hl ha
    have hk := (List.getElem?_eq_some_iff.mp F.b)
    have hs : h.set kf (.idict q') = h := by
      apply List.ext_getElem?
      intro i
      rw [List.getElem?_set]
      split
      · rename_i e; subst e; rw [if_pos hk.1]; exact F.b.symm
      · rfl
    refine ⟨b0, x5, ?_⟩
    rw [hs]
    subst ha
    have : ((pre ++ []).map V.d)[pre.length]? = none := by simp
    unfold forS nextS
    simp only [this]
  | @cons q0 q1 q2 x x' xs xs' r1 r2 ih =>
    intro h pre b0 x5 x6 F C hne hN hl ha
    have hlen := r1.len
    simp only [List.length_cons] at hl
    have e := fun n => sr_step (P := P) (n := n) K F C hne (by omega) r1
    have F' := F.set q1
    have C' := C.set F hne q1
    obtain ⟨b1, y5, e2⟩ := ih (pre := pre ++ [x]) (b0 := N) (x5 := some (.d x)) (x6 := x6) F' C' hne (by rw [List.length_set]; exact hN) (by omega) (by rw [ha]; simp)
    refine ⟨b1, y5, ?_⟩
    have nx : ((all).map V.d)[pre.length]? = some (.d x) := by rw [ha]; simp
    rw [set_set'] at e2
    rw [← e2]
    have k2 := cls396 (P := P)
    obtain ⟨c1, c2, c3⟩ := C
    subst hN
    conv => lhs; unfold forS
    simp (config := { decide := true }) [nx, cutTo, c1, k2, e, run, bindArgs, pick, exs, R_ex, R_ev, stepEx, stepEv, evs, evp, bopV, ifsAll, tst, tstN, tstA, srcOf, nextS, bindT, bindU, parts, initR, back, subV, attrV, findS, atL, idx0, idx1, idx2, idx3, idx4, idxm, short, lim, methB, mkind, sameKind, V.und, undL, truthy, isNone, bB, bI, binV, rd, cmpV, eqV, inV, natOf2, natOf3, natOf5, slcV, optNat, mkTup, allD, mkList, setS, setA, small, callB, anyEq, deq, deqs, intEq_dec, strEq_dec, sok0, sok1, sok2, sok3, sok4, sok5, sok6, sok7, sok8, sok9, sok10, sok11, sok12, sok13, sok14, sok15, sok16, sok17, sok18, sok19, sok20, sok21, sok22, sok23, sok24, sok25, sok26, sok27, sok28, sok29, sok30, sok31, sok32, sok33, sok34, sok35, sok36, sok37, sok38, sok39, sok40, sok41, sok42, sok43, sok44, sok45, sok46, sok47, sok48, sok49, sok50, lay, PyData.canLay0, PyData.canLayAll0, PyData.depth, PyData.depthAll, mkDict, dspS, dspI, dspII, putS, ite_self]
end Mine
end
section
open PySem PySem.W
set_option maxRecDepth 100000
set_option linter.unusedSimpArgs false
set_option linter.unusedVariables false
set_option linter.unusedSectionVars false
namespace Mine
variable {P : Params} {n : Nat} {h : List O} {k : Str} {lo : Int} {b : Nat} {f kf c bo bl be fo : Nat} {m m' : List (Int × PyData)} {s s' : PyData}
theorem get_app {h t : List O} {i : Nat} {o : O} (e : h[i]? = some o) : (h ++ t)[i]? = some o := by
  rw [List.getElem?_append_left (List.getElem?_eq_some_iff.mp e).1]; exact e
theorem ConsAt.app (C : ConsAt h c bo bl be fo k) (t : List O) : ConsAt (h ++ t) c bo bl be fo k := ⟨get_app C.a, get_app C.b, get_app C.f⟩
theorem facts_new (h : List O) (m : List (Int × PyData)) : FactsAt (h ++ factsO (h.length + 1) m) h.length (h.length + 1) m := ⟨by simp, by
  rw [List.getElem?_append_right (Nat.le_succ _)]
  simp⟩
theorem facts_set (h : List O) (m m' : List (Int × PyData)) : (h ++ factsO (h.length + 1) m).set (h.length + 1) (.idict m') = h ++ factsO (h.length + 1) m' := by
  rw [List.set_append_right _ _ (Nat.le_succ _)]
  simp
structure BegAt (h : List O) (be : Nat) (B : List (Int × List (Int × PyData))) : Prop where
  a : h[be]? = some (.iidict B)
structure BlkAt (h : List O) (bl : Nat) (Ls : List PyData) : Prop where
  a : h[bl]? = some (.list Ls)
  l : Ls.length ≤ 1000
theorem c345 {i : Nat} {B : List (Int × List (Int × PyData))} {Ls ss ss' : List PyData} {t : PyData} (K : isKind k lo b) (C : ConsAt h c bo bl be fo k) (G : BegAt h be B) (D : BlkAt h bl Ls) (hB : findI (i : Int) B = some m) (hL : Ls[i]? = some (.list [.list ss, t]))
    (r : SRs k lo b m ss ss' m') (hl : m.length + ss.length ≤ 800) : (R (TT P) (n + 160)).call 345 [.loc c, .d (.int (i : Int))] h = some (.loc h.length, h ++ factsO (h.length + 1) m') := by
  rw [R_call _ _ _ _ _ (at_345 P)]
  have hfo := (List.getElem?_eq_some_iff.mp C.f).1
  have C1 := C.app (factsO (h.length + 1) m)
  have F1 := facts_new h m
  have e1 := fun n => c249 (P := P) (n := n) (h := h) (m := m) (by omega)
  obtain ⟨b1, y5, e2⟩ := steps_for (P := P) (q := n + 28) (num := .int i) (term := t) (all := ss) (N := h.length + 2) K r (pre := []) (b0 := h.length) (x5 := none) (x6 := none) F1 C1 (by omega) (by simp) hl rfl
  rw [facts_set] at e2
  obtain ⟨c1, c2, c3⟩ := C
  obtain ⟨d1, d2, d3⟩ := C1
  have k1 := cls273 (P := P)
  have k2 := cls396 (P := P)
  have g1 := G.a
  have g2 := get_app (t := factsO (h.length + 1) m) D.a
  have hi : i < Ls.length := (List.getElem?_eq_some_iff.mp hL).1
  have hl1 : Ls.length ≤ 1000000 := Nat.le_trans D.l (by decide)
  have hl2 : ss.length ≤ 1000000 := by omega
  have bk : V.und h.length (.loc h.length) = false := by
    show Nat.blt h.length h.length = false
    cases q : Nat.blt h.length h.length
    · rfl
    · exact absurd (Nat.blt_eq.mp q) (Nat.lt_irrefl _)
  have hL' : Ls[i] = .list [.list ss, t] := Option.some.inj ((List.getElem?_eq_getElem hi).symm.trans hL)
  simp only [List.length_nil, Nat.add_assoc, Nat.reduceAdd] at e2
  simp (config := { decide := true }) [fn_345, c1, c2, d1, d2, k1, k2, g1, g2, hB, hL', e1, e2, hi, hl1, hl2, bk, idx_nat, run, bindArgs, pick, exs, R_ex, R_ev, stepEx, stepEv, evs, evp, bopV, ifsAll, tst, tstN, tstA, srcOf, nextS, bindT, bindU, parts, initR, back, subV, attrV, findS, atL, idx0, idx1, idx2, idx3, idx4, idxm, short, lim, methB, mkind, sameKind, V.und, undL, truthy, isNone, bB, bI, binV, rd, cmpV, eqV, inV, natOf2, natOf3, natOf5, slcV, optNat, mkTup, allD, mkList, setS, setA, small, callB, anyEq, deq, deqs, intEq_dec, strEq_dec, sok0, sok1, sok2, sok3, sok4, sok5, sok6, sok7, sok8, sok9, sok10, sok11, sok12, sok13, sok14, sok15, sok16, sok17, sok18, sok19, sok20, sok21, sok22, sok23, sok24, sok25, sok26, sok27, sok28, sok29, sok30, sok31, sok32, sok33, sok34, sok35, sok36, sok37, sok38, sok39, sok40, sok41, sok42, sok43, sok44, sok45, sok46, sok47, sok48, sok49, sok50, lay, PyData.canLay0, PyData.canLayAll0, PyData.depth, PyData.depthAll, mkDict, dspS, dspI, dspII, putS, ite_self]
end Mine
end
section
open PySem PySem.W
set_option maxRecDepth 100000
set_option linter.unusedSimpArgs false
set_option linter.unusedVariables false
set_option linter.unusedSectionVars false
namespace Mine
variable {P : Params} {n : Nat} {h : List O} {k : Str} {lo : Int} {b : Nat} {f kf c bo bl be fo : Nat} {m m' : List (Int × PyData)} {s s' : PyData}
/-- what a terminator becomes, and where it goes -/
inductive TR (m : List (Int × PyData)) : PyData → PyData → Option Int → Prop
  | a3 (z : Bool) (w : Str) (g : Int) : findI 3 m = some (.bool z) → TR m (tAs opC3 w g) (if z = true then tAs (cB true) w g else tGo g) (some g)
  | a2 (x : PyData) (z : Bool) (w : Str) (g : Int) : findI 2 m = some (.tuple [x, .bool z]) → TR m (tAs opC2 w g) (if z = true then tAs (cB true) w g else tGo g) (some g)
  | a2n (w : Str) (g : Int) : findI 2 m = none → TR m (tAs opC2 w g) (tAs opC2 w g) (some g)
  | ret : TR m tRet tRet none
section
variable (K : isKind k lo b) (F : FactsAt h f kf m) (C : ConsAt h c bo bl be fo k)
include F in
theorem opnd_3 {z : Bool} (hv : findI 3 m = some (.bool z)) : ∀ n, (R (TT P) (n + 40)).call 263 [.loc f, .d opC3] h = some (.d (.bool z), h) := fun n =>
  c263p (n := n + 10) (w := "copy") (.inl rfl) F (fun n => by rw [c256a F, hv]; rfl) ⟨_, rfl⟩
include F in
theorem opnd_2 {x : PyData} {z : Bool} (hv : findI 2 m = some (.tuple [x, .bool z])) : ∀ n, (R (TT P) (n + 40)).call 263 [.loc f, .d opC2] h = some (.d (.bool z), h) := fun n =>
  c263p (n := n + 10) (w := "copy") (.inl rfl) F (fun n => c256b F hv (.inr rfl)) ⟨_, rfl⟩
include F in
theorem opnd_2n (hv : findI 2 m = none) : ∀ n, (R (TT P) (n + 40)).call 263 [.loc f, .d opC2] h = some (.d .none, h) := fun n =>
  c263p (n := n + 10) (w := "copy") (.inl rfl) F (fun n => c256c F hv (.inr rfl)) ⟨_, rfl⟩
include K F C
theorem tr_put {t t' : PyData} {g : Option Int} (r : TR m t t' g) : (R (TT P) (n + 80)).call 393 [.loc c, .d t, .loc f] h = some (.d t', h) := by
  have t3 : ∀ n, (R (TT P) (n + 40)).call 305 [.loc c, .d opC3] h = some (.d tB, h) := fun n => c305l (n := n + 10) (w := "copy") (l := 3) C (.inl rfl) (by decide)
  have t2 : ∀ n, (R (TT P) (n + 40)).call 305 [.loc c, .d opC2] h = some (.d tB, h) := fun n => c305f (n := n + 10) (w := "copy") (i := 1) C (.inl rfl) (.inr rfl)
  cases r with
  | a3 z w g h1 =>
    cases z with
    | false => exact c393a F C (opnd_3 F h1)
    | true => exact c393b F C (.inl rfl) (opnd_3 F h1) fun n => put_known (.inr rfl) K F C (.inl rfl) (opnd_3 F h1) t3 rfl
  | a2 x z w g h1 =>
    cases z with
    | false => exact c393a F C (opnd_2 F h1)
    | true => exact c393b F C (.inl rfl) (opnd_2 F h1) fun n => put_known (.inr rfl) K F C (.inl rfl) (opnd_2 F h1) t2 rfl
  | a2n w g h1 => exact c393b F C (.inr rfl) (opnd_2n F h1) fun n => put_unknown F C (.inl rfl) (opnd_2n F h1) t2
  | ret => exact c393r F C
def goneV (g : Option Int) (kf : Nat) : V := match g with | some g => .lstv [.tupv [.d (.int g), .loc kf]] | none => .d (.list [])
theorem tr_gone {t t' : PyData} {g : Option Int} {i : Nat} {Ls : List PyData} {ss : List PyData} (D : BlkAt h bl Ls) (hL : Ls[i]? = some (.list [.list ss, t])) (hh : OkH h) (r : TR m t t' g) :
    (R (TT P) (n + 80)).call 350 [.loc c, .d (.int (i : Int)), .loc f] h = some (goneV g kf, h) := by
  have hi : i < Ls.length := (List.getElem?_eq_some_iff.mp hL).1
  have hL' : Ls[i] = .list [.list ss, t] := Option.some.inj ((List.getElem?_eq_getElem hi).symm.trans hL)
  have hl1 : Ls.length ≤ 1000000 := Nat.le_trans D.l (by decide)
  have key : ∀ {o : PyData} {w : Str} {g : Int}, t = tAs o w g → (∀ n, (R (TT P) (n + 60)).call 357 [.loc c, .d t, .loc f] h = some (.d (.int g), h)) ∨ (∀ n, (R (TT P) (n + 60)).call 357 [.loc c, .d t, .loc f] h = some (.d .none, h)) →
      (R (TT P) (n + 80)).call 350 [.loc c, .d (.int (i : Int)), .loc f] h = some (goneV (some g) kf, h) := by
    intro o w g ht e
    subst ht
    have e2 := fun n => c202 (P := P) (n := n) (o := o) (w := w) (g := g) hh
    rw [R_call _ _ _ _ _ (at_350 P)]
    obtain ⟨f1, f2⟩ := F
    obtain ⟨c1, c2, c3⟩ := C
    have k2 := cls396 (P := P)
    have d1 := D.a
    unfold goneV
    rcases e with e | e <;> simp (config := { decide := true }) [fn_350, c1, c2, f1, k2, d1, hi, hL', hl1, e, e2, idx_nat, compS, run, bindArgs, pick, exs, R_ex, R_ev, stepEx, stepEv, evs, evp, bopV, ifsAll, tst, tstN, tstA, srcOf, nextS, bindT, bindU, parts, initR, back, subV, attrV, findS, atL, idx0, idx1, idx2, idx3, idx4, idxm, short, lim, methB, mkind, sameKind, V.und, undL, truthy, isNone, bB, bI, binV, rd, cmpV, eqV, inV, natOf2, natOf3, natOf5, slcV, optNat, mkTup, allD, mkList, setS, setA, small, callB, anyEq, deq, deqs, intEq_dec, strEq_dec, sok0, sok1, sok2, sok3, sok4, sok5, sok6, sok7, sok8, sok9, sok10, sok11, sok12, sok13, sok14, sok15, sok16, sok17, sok18, sok19, sok20, sok21, sok22, sok23, sok24, sok25, sok26, sok27, sok28, sok29, sok30, sok31, sok32, sok33, sok34, sok35, sok36, sok37, sok38, sok39, sok40, sok41, sok42, sok43, sok44, sok45, sok46, sok47, sok48, sok49, sok50, lay, PyData.canLay0, PyData.canLayAll0, PyData.depth, PyData.depthAll, mkDict, dspS, dspI, dspII, putS, ite_self]
  cases r with
  | a3 z w g h1 =>
    cases z with
    | false => exact key rfl (.inl fun n => c357a F C (opnd_3 F h1))
    | true => exact key rfl (.inr fun n => c357b F C (.inl rfl) (opnd_3 F h1))
  | a2 x z w g h1 =>
    cases z with
    | false => exact key rfl (.inl fun n => c357a F C (opnd_2 F h1))
    | true => exact key rfl (.inr fun n => c357b F C (.inl rfl) (opnd_2 F h1))
  | a2n w g h1 => exact key rfl (.inr fun n => c357b F C (.inr rfl) (opnd_2n F h1))
  | ret =>
    have e := fun n => c357r (P := P) (n := n) F C
    have e2 := fun n => c202r (P := P) (n := n) hh
    rw [R_call _ _ _ _ _ (at_350 P)]
    obtain ⟨f1, f2⟩ := F
    obtain ⟨c1, c2, c3⟩ := C
    have k2 := cls396 (P := P)
    have d1 := D.a
    unfold goneV
    simp (config := { decide := true }) [fn_350, c1, c2, f1, k2, d1, hi, hL', hl1, e, e2, idx_nat, compS, run, bindArgs, pick, exs, R_ex, R_ev, stepEx, stepEv, evs, evp, bopV, ifsAll, tst, tstN, tstA, srcOf, nextS, bindT, bindU, parts, initR, back, subV, attrV, findS, atL, idx0, idx1, idx2, idx3, idx4, idxm, short, lim, methB, mkind, sameKind, V.und, undL, truthy, isNone, bB, bI, binV, rd, cmpV, eqV, inV, natOf2, natOf3, natOf5, slcV, optNat, mkTup, allD, mkList, setS, setA, small, callB, anyEq, deq, deqs, intEq_dec, strEq_dec, sok0, sok1, sok2, sok3, sok4, sok5, sok6, sok7, sok8, sok9, sok10, sok11, sok12, sok13, sok14, sok15, sok16, sok17, sok18, sok19, sok20, sok21, sok22, sok23, sok24, sok25, sok26, sok27, sok28, sok29, sok30, sok31, sok32, sok33, sok34, sok35, sok36, sok37, sok38, sok39, sok40, sok41, sok42, sok43, sok44, sok45, sok46, sok47, sok48, sok49, sok50, lay, PyData.canLay0, PyData.canLayAll0, PyData.depth, PyData.depthAll, mkDict, dspS, dspI, dspII, putS, ite_self]
end
end Mine
end
section
open PySem PySem.W
set_option maxRecDepth 100000
set_option linter.unusedSimpArgs false
set_option linter.unusedVariables false
set_option linter.unusedSectionVars false
namespace Mine
variable {P : Params} {n : Nat} {h : List O} {k : Str} {lo : Int} {b : Nat} {f kf c bo bl be fo : Nat} {m m' : List (Int × PyData)} {s s' : PyData}
theorem c362 {g : Int} {B : List (Int × List (Int × PyData))} (C : ConsAt h c bo bl be fo k) (G : BegAt h be B) (hk : h[kf]? = some (.idict m)) (hl : m.length ≤ 1000000) (hB : findI g B = none) (hb : B.length ≤ 1000000) :
    (R (TT P) (n + 30)).call 362 [.loc c, .d (.int g), .loc kf] h = some (.d (.bool true), h.set be (.iidict (putI g m B))) := by
  rw [R_call _ _ _ _ _ (at_362 P)]
  obtain ⟨c1, c2, c3⟩ := C
  have g1 := G.a
  have ts : ∀ x : O, List.take h.length (h.set be x) = h.set be x := fun x => List.take_of_length_le (by rw [List.length_set]; exact Nat.le_refl _)
  simp (config := { decide := true }) [fn_362, c1, g1, hk, hl, hB, hb, ts, run, bindArgs, pick, exs, R_ex, R_ev, stepEx, stepEv, evs, evp, bopV, ifsAll, tst, tstN, tstA, srcOf, nextS, bindT, bindU, parts, initR, back, subV, attrV, findS, atL, idx0, idx1, idx2, idx3, idx4, idxm, short, lim, methB, mkind, sameKind, V.und, undL, truthy, isNone, bB, bI, binV, rd, cmpV, eqV, inV, natOf2, natOf3, natOf5, slcV, optNat, mkTup, allD, mkList, setS, setA, small, callB, anyEq, deq, deqs, intEq_dec, strEq_dec, sok0, sok1, sok2, sok3, sok4, sok5, sok6, sok7, sok8, sok9, sok10, sok11, sok12, sok13, sok14, sok15, sok16, sok17, sok18, sok19, sok20, sok21, sok22, sok23, sok24, sok25, sok26, sok27, sok28, sok29, sok30, sok31, sok32, sok33, sok34, sok35, sok36, sok37, sok38, sok39, sok40, sok41, sok42, sok43, sok44, sok45, sok46, sok47, sok48, sok49, sok50, lay, PyData.canLay0, PyData.canLayAll0, PyData.depth, PyData.depthAll, mkDict, dspS, dspI, dspII, putS, ite_self]
mutual
theorem und_mono {a a' : Nat} (l : a ≤ a') : ∀ {v : V}, v.und a = true → v.und a' = true
  | .d _, _ => rfl
  | .loc m, h => by
    have h' : Nat.blt m a = true := h
    show Nat.blt m a' = true
    exact Nat.blt_eq.mpr (Nat.lt_of_lt_of_le (Nat.blt_eq.mp h') l)
  | .tupv vs, h => undL_mono l (show undL a vs = true from h)
  | .lstv vs, h => undL_mono l (show undL a vs = true from h)
  | .sdict _, _ => rfl
  | .idict _, _ => rfl
  | .bad, _ => rfl
theorem undL_mono {a a' : Nat} (l : a ≤ a') : ∀ {vs : List V}, undL a vs = true → undL a' vs = true
  | [], _ => rfl
  | v :: r, h => by
    have h' : v.und a = true ∧ undL a r = true := Bool.and_eq_true_iff.mp h
    exact Bool.and_eq_true_iff.mpr ⟨und_mono l h'.1, undL_mono l h'.2⟩
end
theorem undA_mono {a a' : Nat} (l : a ≤ a') : ∀ {vs : List (Str × V)}, undA a vs = true → undA a' vs = true
  | [], _ => rfl
  | (_, v) :: r, h => by
    have h' : v.und a = true ∧ undA a r = true := Bool.and_eq_true_iff.mp h
    exact Bool.and_eq_true_iff.mpr ⟨und_mono l h'.1, undA_mono l h'.2⟩
theorem undO_mono {a a' : Nat} (l : a ≤ a') {o : O} (h : o.und a = true) : o.und a' = true := by
  cases o with
  | attrs C vs => exact undA_mono l (show undA a vs = true from h)
  | _ => rfl
theorem undH_mono {a a' : Nat} (l : a ≤ a') : ∀ {k : Nat} {h : List O}, undH a k h = true → undH a' k h = true
  | 0, _, _ => by unfold undH; rfl
  | k + 1, [], _ => rfl
  | k + 1, o :: r, h => by
    have h' : o.und a = true ∧ undH a k r = true := Bool.and_eq_true_iff.mp h
    exact Bool.and_eq_true_iff.mpr ⟨undO_mono l h'.1, undH_mono l h'.2⟩
theorem undH_set {a : Nat} {o : O} (ho : o.und a = true) : ∀ {k : Nat} {h : List O} {i : Nat}, undH a k h = true → undH a k (h.set i o) = true
  | 0, _, _, _ => by unfold undH; rfl
  | k + 1, [], i, _ => rfl
  | k + 1, x :: r, 0, h => by
    have h' : x.und a = true ∧ undH a k r = true := Bool.and_eq_true_iff.mp h
    exact Bool.and_eq_true_iff.mpr ⟨ho, h'.2⟩
  | k + 1, x :: r, i + 1, h => by
    have h' : x.und a = true ∧ undH a k r = true := Bool.and_eq_true_iff.mp h
    exact Bool.and_eq_true_iff.mpr ⟨h'.1, undH_set ho h'.2⟩
theorem OkH.set {o : O} {i : Nat} (h0 : OkH h) (ho : o.und h.length = true) : OkH (h.set i o) := by
  unfold OkH
  rw [List.length_set]
  exact undH_set ho h0
theorem OkH.app {t : List O} (h0 : OkH h) (ht : undH (h.length + t.length) t.length t = true) : OkH (h ++ t) := by
  unfold OkH
  rw [List.length_append, undH_split, ht, Bool.and_true]
  exact undH_mono (Nat.le_add_right _ _) h0
theorem OkH.facts (h0 : OkH h) : OkH (h ++ factsO (h.length + 1) m) := by
  refine h0.app ?_
  unfold factsO undH O.und undA V.und
  simp [undH, O.und, undA]
theorem OkH.list {l : List PyData} (h0 : OkH h) : OkH (h ++ [.list l]) := h0.app rfl
end Mine
end
section
open PySem PySem.W
set_option maxRecDepth 100000
set_option linter.unusedSimpArgs false
set_option linter.unusedVariables false
set_option linter.unusedSectionVars false
namespace Mine
variable {P : Params} {n : Nat} {h : List O} {k : Str} {lo : Int} {b : Nat} {f kf c bo bl be fo : Nat} {m m' : List (Int × PyData)} {s s' : PyData}
theorem BegAt.app {B : List (Int × List (Int × PyData))} (G : BegAt h be B) (t : List O) : BegAt (h ++ t) be B := ⟨get_app G.a⟩
theorem BlkAt.app {Ls : List PyData} (D : BlkAt h bl Ls) (t : List O) : BlkAt (h ++ t) bl Ls := ⟨get_app D.a, D.l⟩
def folBody : List S := [(.asg 2 (.methB .pop (.var 1) [])),
    (.for_ (.many [3, 4]) (.methI "gone_on" (.var 0) [(.var 2), (.methI "behind" (.var 0) [(.var 2)])]) [(.ite (.methI "meet" (.var 0) [(.var 3), (.var 4)]) [(.expr (.methB .append (.var 1) [(.var 3)]))] [])])]
def folCond : E := .cmp .NotEq (.var 1) (.lst false [])
/-- a turn that goes on to one block not yet seen -/
theorem fol_turn {i j : Nat} {B : List (Int × List (Int × PyData))} {Ls ss ss' : List PyData} {t t' : PyData} {x2 x3 x4 : Option V} {b0 F q : Nat} (K : isKind k lo b) (C : ConsAt h c bo bl be fo k) (G : BegAt h be B) (D : BlkAt h bl Ls) (hh : OkH h)
    (hB : findI (i : Int) B = some m) (hL : Ls[i]? = some (.list [.list ss, t])) (r : SRs k lo b m ss ss' m') (r2 : TR m' t t' (some (j : Int))) (hl : m.length + ss.length ≤ 800) (hl' : m'.length ≤ 1000000) (hj : findI (j : Int) B = none) (hb : B.length ≤ 1000000) :
    ∃ b1 y4, whileL (R (TT P) (q + 200)) (h.length + 1) folCond folBody (F + 1) ⟨b0, h ++ [.list [.int (i : Int)]], [some (.loc c), some (.loc h.length), x2, x3, x4]⟩ =
      whileL (R (TT P) (q + 200)) (h.length + 1) folCond folBody F ⟨b1, h.set be (.iidict (putI (j : Int) m' B)) ++ [.list [.int (j : Int)]], [some (.loc c), some (.loc h.length), some (.d (.int (i : Int))), some (.d (.int (j : Int))), y4]⟩ := by
  have hbe := (List.getElem?_eq_some_iff.mp G.a).1
  have hc := (List.getElem?_eq_some_iff.mp C.a).1
  let h1 : List O := h ++ [.list []]
  have l1 : h1.length = h.length + 1 := by simp [h1]
  have C1 : ConsAt h1 c bo bl be fo k := C.app _
  have G1 : BegAt h1 be B := G.app _
  have D1 : BlkAt h1 bl Ls := D.app _
  have o1 : OkH h1 := hh.list
  have e1 := fun n => c345 (P := P) (n := n) K C1 G1 D1 hB hL r hl
  have F2 := facts_new h1 m'
  have C2 := C1.app (factsO (h1.length + 1) m')
  have G2 := G1.app (factsO (h1.length + 1) m')
  have D2 := D1.app (factsO (h1.length + 1) m')
  have o2 : OkH (h1 ++ factsO (h1.length + 1) m') := o1.facts
  have e2 := fun n => tr_gone (P := P) (n := n) K F2 C2 D2 hL o2 r2
  have e3 := fun n => c362 (P := P) (n := n) (g := (j : Int)) C2 G2 F2.b hl' hj hb
  have hx : h1 ++ factsO (h1.length + 1) m' = h ++ [.list [], .attrs 273 [("known", .loc (h.length + 2))], .idict m'] := by simp [h1]
  rw [hx] at e1 e2 e3
  rw [l1] at e1 e2 e3
  let X : O := .iidict (putI (j : Int) m' B)
  have sb : ∀ (t : List O) (x : O), (h ++ t).set be x = h.set be x ++ t := fun t x => List.set_append_left _ _ hbe
  rw [sb] at e3
  have p1 : (h ++ [O.list [.int (i : Int)]])[h.length]? = some (.list [.int (i : Int)]) := by simp
  have p2 : ∀ z : O, (h ++ [O.list [.int (i : Int)]]).set h.length z = h ++ [z] := fun z => by simp
  have p3 : ∀ a b d : O, (h.set be X ++ [a, b, d])[h.length]? = some a := fun a b d => by
    have : (h.set be X).length = h.length := List.length_set
    rw [List.getElem?_append_right (by rw [this]; exact Nat.le_refl _), this]; simp
  have p4 : ∀ a b d z : O, (h.set be X ++ [a, b, d]).set h.length z = h.set be X ++ [z, b, d] := fun a b d z => by
    have : (h.set be X).length = h.length := List.length_set
    rw [List.set_append_right _ _ (by rw [this]; exact Nat.le_refl _), this]; simp
  have u : ∀ (l : List PyData) (b d : O), undH (h.length + 1) (h.length + 1) (h.set be X ++ [O.list l, b, d]) = true := fun l b d => by
    have e : (h.set be X).length = h.length := List.length_set
    have := undH_split (a := h.length + 1) (h := h.set be X) (t := [O.list l, b, d]) (j := 1)
    rw [e] at this
    rw [this]
    have w : undH (h.length + 1) h.length (h.set be X) = true := undH_set rfl (undH_mono (Nat.le_succ _) hh)
    rw [w, Bool.true_and]; rfl
  have tk : ∀ a b d : O, List.take (h.length + 1) (h.set be X ++ [a, b, d]) = h.set be X ++ [a] := fun a b d => by
    have e : (h.set be X).length = h.length := List.length_set
    have := List.take_length_add_append (l₁ := h.set be X) (l₂ := [a, b, d]) (i := 1)
    rw [e] at this
    rw [this]; rfl
  have pz : ∀ (a i : Nat), i < a → poison a (some (.loc i)) = some (.loc i) := fun a i hi => by
    unfold poison
    have : V.und a (.loc i) = true := Nat.blt_eq.mpr hi
    dsimp only
    rw [this]; rfl
  have pz1 := pz (h.length + 1) c (Nat.lt_succ_of_lt hc)
  have pz2 := pz (h.length + 1) h.length (Nat.lt_succ_self _)
  have pz3 : ∀ (a : Nat) (x : PyData), poison a (some (.d x)) = some (.d x) := fun a x => rfl
  have pz4 : poison (h.length + 1) (some (.loc (h.length + 2))) = some .bad := by
    unfold poison
    have : V.und (h.length + 1) (.loc (h.length + 2)) = false := by
      show Nat.blt (h.length + 2) (h.length + 1) = false
      cases q : Nat.blt (h.length + 2) (h.length + 1)
      · rfl
      · exact absurd (Nat.blt_eq.mp q) (by omega)
    dsimp only
    rw [this]; rfl
  obtain ⟨c1, c2, c3⟩ := C1
  obtain ⟨d1, d2, d3⟩ := C2
  rw [hx] at d1
  have c1' : (h ++ [O.list []])[c]? = some (.attrs 396 [("body", .loc bo), ("followed", .loc fo), ("begins", .loc be)]) := c1
  have e1' : ∀ n, (R (TT P) (n + 160)).call 345 [.loc c, .d (.int (i : Int))] (h ++ [O.list []]) = _ := e1
  have g1 : (h.set be X ++ [.list [], .attrs 273 [("known", .loc (h.length + 2))], .idict m'])[c]? = some (.attrs 396 [("body", .loc bo), ("followed", .loc fo), ("begins", .loc be)]) := by
    have hcb : c ≠ be := fun z => by
      have q1 := C.a
      rw [z, G.a] at q1; cases q1
    have e : (h.set be X).length = h.length := List.length_set
    rw [List.getElem?_append_left (by rw [e]; exact hc), List.getElem?_set, if_neg (Ne.symm hcb)]; exact C.a
  have g2 : (h ++ [O.list [.int (i : Int)]])[c]? = some (.attrs 396 [("body", .loc bo), ("followed", .loc fo), ("begins", .loc be)]) := get_app C.a
  have k2 := cls396 (P := P)
  show ∃ b1 y4, _ = whileL (R (TT P) (q + 200)) (h.length + 1) folCond folBody F ⟨b1, h.set be X ++ [.list [.int (j : Int)]], _⟩
  refine ⟨h.length + 1, some .bad, ?_⟩
  conv => lhs; unfold whileL
  simp (config := { decide := true }) [folCond, folBody, goneV, forS, cutTo, cut, pz1, pz2, pz3, pz4, p1, p2, c1', d1, g1, g2, k2, e1', e2, e3, p3, p4, u, tk, X, run, bindArgs, pick, exs, R_ex, R_ev, stepEx, stepEv, evs, evp, bopV, ifsAll, tst, tstN, tstA, srcOf, nextS, bindT, bindU, parts, initR, back, subV, attrV, findS, atL, idx0, idx1, idx2, idx3, idx4, idxm, short, lim, methB, mkind, sameKind, V.und, undL, truthy, isNone, bB, bI, binV, rd, cmpV, eqV, inV, natOf2, natOf3, natOf5, slcV, optNat, mkTup, allD, mkList, setS, setA, small, callB, anyEq, deq, deqs, intEq_dec, strEq_dec, sok0, sok1, sok2, sok3, sok4, sok5, sok6, sok7, sok8, sok9, sok10, sok11, sok12, sok13, sok14, sok15, sok16, sok17, sok18, sok19, sok20, sok21, sok22, sok23, sok24, sok25, sok26, sok27, sok28, sok29, sok30, sok31, sok32, sok33, sok34, sok35, sok36, sok37, sok38, sok39, sok40, sok41, sok42, sok43, sok44, sok45, sok46, sok47, sok48, sok49, sok50, lay, PyData.canLay0, PyData.canLayAll0, PyData.depth, PyData.depthAll, mkDict, dspS, dspI, dspII, putS, ite_self]
end Mine
end
section
open PySem PySem.W
set_option maxRecDepth 100000
set_option linter.unusedSimpArgs false
set_option linter.unusedVariables false
set_option linter.unusedSectionVars false
namespace Mine
variable {P : Params} {n : Nat} {h : List O} {k : Str} {lo : Int} {b : Nat} {f kf c bo bl be fo : Nat} {m m' : List (Int × PyData)} {s s' : PyData}
/-- the last block -/
theorem fol_last {i : Nat} {B : List (Int × List (Int × PyData))} {Ls ss ss' : List PyData} {x2 x3 x4 : Option V} {b0 F q : Nat} (K : isKind k lo b) (C : ConsAt h c bo bl be fo k) (G : BegAt h be B) (D : BlkAt h bl Ls) (hh : OkH h)
    (hB : findI (i : Int) B = some m) (hL : Ls[i]? = some (.list [.list ss, tRet])) (r : SRs k lo b m ss ss' m') (hl : m.length + ss.length ≤ 800) :
    ∃ b1 r1, whileL (R (TT P) (q + 200)) (h.length + 1) folCond folBody (F + 2) ⟨b0, h ++ [.list [.int (i : Int)]], [some (.loc c), some (.loc h.length), x2, x3, x4]⟩ = some (.next, ⟨b1, h ++ [.list []], r1⟩) := by
  have hc := (List.getElem?_eq_some_iff.mp C.a).1
  let h1 : List O := h ++ [.list []]
  have l1 : h1.length = h.length + 1 := by simp [h1]
  have C1 : ConsAt h1 c bo bl be fo k := C.app _
  have G1 : BegAt h1 be B := G.app _
  have D1 : BlkAt h1 bl Ls := D.app _
  have o1 : OkH h1 := hh.list
  have e1 := fun n => c345 (P := P) (n := n) K C1 G1 D1 hB hL r hl
  have F2 := facts_new h1 m'
  have C2 := C1.app (factsO (h1.length + 1) m')
  have D2 := D1.app (factsO (h1.length + 1) m')
  have o2 : OkH (h1 ++ factsO (h1.length + 1) m') := o1.facts
  have e2 := fun n => tr_gone (P := P) (n := n) K F2 C2 D2 hL o2 .ret
  have hx : h1 ++ factsO (h1.length + 1) m' = h ++ [.list [], .attrs 273 [("known", .loc (h.length + 2))], .idict m'] := by simp [h1]
  rw [hx] at e1 e2
  rw [l1] at e1 e2
  have p1 : (h ++ [O.list [.int (i : Int)]])[h.length]? = some (.list [.int (i : Int)]) := by simp
  have p2 : ∀ z : O, (h ++ [O.list [.int (i : Int)]]).set h.length z = h ++ [z] := fun z => by simp
  have p5 : (h ++ [O.list []])[h.length]? = some (.list []) := by simp
  have u : ∀ (l : List PyData) (b d : O), undH (h.length + 1) (h.length + 1) (h ++ [O.list l, b, d]) = true := fun l b d => by
    rw [undH_split (a := h.length + 1) (h := h) (t := [O.list l, b, d]) (j := 1), undH_mono (Nat.le_succ _) hh, Bool.true_and]; rfl
  have tk : ∀ a b d : O, List.take (h.length + 1) (h ++ [a, b, d]) = h ++ [a] := fun a b d => by
    rw [List.take_length_add_append (l₁ := h) (l₂ := [a, b, d]) (i := 1)]; rfl
  have pz : ∀ (a i : Nat), i < a → poison a (some (.loc i)) = some (.loc i) := fun a i hi => by
    unfold poison
    have : V.und a (.loc i) = true := Nat.blt_eq.mpr hi
    dsimp only
    rw [this]; rfl
  have pz1 := pz (h.length + 1) c (Nat.lt_succ_of_lt hc)
  have pz2 := pz (h.length + 1) h.length (Nat.lt_succ_self _)
  have pz3 : ∀ (a : Nat) (x : PyData), poison a (some (.d x)) = some (.d x) := fun a x => rfl
  obtain ⟨c1, c2, c3⟩ := C1
  obtain ⟨d1, d2, d3⟩ := C2
  rw [hx] at d1
  have c1' : (h ++ [O.list []])[c]? = some (.attrs 396 [("body", .loc bo), ("followed", .loc fo), ("begins", .loc be)]) := c1
  have e1' : ∀ n, (R (TT P) (n + 160)).call 345 [.loc c, .d (.int (i : Int))] (h ++ [O.list []]) = _ := e1
  have k2 := cls396 (P := P)
  refine ⟨h.length + 1, [some (.loc c), some (.loc h.length), some (.d (.int (i : Int))), poison (h.length + 1) x3, poison (h.length + 1) x4], ?_⟩
  conv => lhs; unfold whileL
  simp (config := { decide := true }) [folCond, folBody, goneV, whileL, forS, cutTo, cut, pz1, pz2, pz3, p1, p2, p5, c1', d1, k2, e1', e2, u, tk, run, bindArgs, pick, exs, R_ex, R_ev, stepEx, stepEv, evs, evp, bopV, ifsAll, tst, tstN, tstA, srcOf, nextS, bindT, bindU, parts, initR, back, subV, attrV, findS, atL, idx0, idx1, idx2, idx3, idx4, idxm, short, lim, methB, mkind, sameKind, V.und, undL, truthy, isNone, bB, bI, binV, rd, cmpV, eqV, inV, natOf2, natOf3, natOf5, slcV, optNat, mkTup, allD, mkList, setS, setA, small, callB, anyEq, deq, deqs, intEq_dec, strEq_dec, sok0, sok1, sok2, sok3, sok4, sok5, sok6, sok7, sok8, sok9, sok10, sok11, sok12, sok13, sok14, sok15, sok16, sok17, sok18, sok19, sok20, sok21, sok22, sok23, sok24, sok25, sok26, sok27, sok28, sok29, sok30, sok31, sok32, sok33, sok34, sok35, sok36, sok37, sok38, sok39, sok40, sok41, sok42, sok43, sok44, sok45, sok46, sok47, sok48, sok49, sok50, lay, PyData.canLay0, PyData.canLayAll0, PyData.depth, PyData.depthAll, mkDict, dspS, dspI, dspII, putS, ite_self]
end Mine
end
section
open PySem PySem.W
set_option maxRecDepth 100000
set_option linter.unusedSimpArgs false
set_option linter.unusedVariables false
set_option linter.unusedSectionVars false
namespace Mine
variable {P : Params} {n : Nat} {h : List O} {k : Str} {lo : Int} {b : Nat} {c bo bl be fo : Nat}
abbrev Known := List (Int × PyData)
/-- blocks, each going on to the next -/
inductive Chain (k : Str) (lo : Int) (b : Nat) : Nat → Known → List PyData → List PyData → List (Int × Known) → Prop
  | last {i : Nat} {q q' : Known} {xs xs' : List PyData} : SRs k lo b q xs xs' q' → q.length + xs.length ≤ 800 → Chain k lo b i q [.list [.list xs, tRet]] [.list [.list xs', tRet]] [((i : Int), q)]
  | step {i : Nat} {q q' : Known} {xs xs' : List PyData} {t t' : PyData} {Ls Ls' : List PyData} {Bs : List (Int × Known)} : SRs k lo b q xs xs' q' → TR q' t t' (some ((i + 1 : Nat) : Int)) → q.length + xs.length ≤ 800 → q'.length ≤ 1000000 → Chain k lo b (i + 1) q' Ls Ls' Bs →
      Chain k lo b i q (.list [.list xs, t] :: Ls) (.list [.list xs', t'] :: Ls') (((i : Int), q) :: Bs)
theorem findI_none {α : Type} {x : Int} : ∀ {l : List (Int × α)}, (∀ p ∈ l, p.1 < x) → findI x l = none
  | [], _ => rfl
  | (j, y) :: l, h => by
    unfold findI
    have : intEq x j = false := by
      rw [intEq_dec]
      have := h (j, y) (.head _)
      simp at this ⊢; omega
    rw [this]
    exact findI_none fun p hp => h p (.tail _ hp)
theorem findI_last {α : Type} {x : Int} {y : α} : ∀ {l : List (Int × α)}, (∀ p ∈ l, p.1 < x) → findI x (l ++ [(x, y)]) = some y
  | [], _ => by
    show findI x [(x, y)] = some y
    unfold findI
    rw [intEq_dec, decide_eq_true rfl, if_pos rfl]
  | (j, z) :: l, h => by
    show findI x ((j, z) :: (l ++ [(x, y)])) = some y
    unfold findI
    have : intEq x j = false := by
      rw [intEq_dec]
      have := h (j, z) (.head _)
      simp at this ⊢; omega
    rw [this]
    exact findI_last fun p hp => h p (.tail _ hp)
theorem putI_new {α : Type} {x : Int} {y : α} : ∀ {l : List (Int × α)}, (∀ p ∈ l, p.1 < x) → putI x y l = l ++ [(x, y)]
  | [], _ => rfl
  | (j, z) :: l, h => by
    unfold putI
    have : intEq x j = false := by
      rw [intEq_dec]
      have := h (j, z) (.head _)
      simp at this ⊢; omega
    rw [this]
    exact congrArg ((j, z) :: ·) (putI_new fun p hp => h p (.tail _ hp))
theorem ConsAt.setB {B : List (Int × Known)} (C : ConsAt h c bo bl be fo k) (G : BegAt h be B) (B' : List (Int × Known)) : ConsAt (h.set be (.iidict B')) c bo bl be fo k := by
  have ne : ∀ {i : Nat} {o : O}, h[i]? = some o → (∀ B, o ≠ .iidict B) → (h.set be (.iidict B'))[i]? = some o := fun {i o} e ho => by
    rw [List.getElem?_set]
    split
    · rename_i z; subst z; rw [G.a] at e; cases e; exact absurd rfl (ho _)
    · exact e
  exact ⟨ne C.a (fun _ z => by cases z), ne C.b (fun _ z => by cases z), ne C.f (fun _ z => by cases z)⟩
theorem BlkAt.setB {B : List (Int × Known)} {Ls : List PyData} (D : BlkAt h bl Ls) (G : BegAt h be B) (B' : List (Int × Known)) : BlkAt (h.set be (.iidict B')) bl Ls := by
  refine ⟨?_, D.l⟩
  rw [List.getElem?_set]
  split
  · rename_i z; subst z; have := D.a; rw [G.a] at this; cases this
  · exact D.a
theorem BegAt.setB {B : List (Int × Known)} (G : BegAt h be B) (B' : List (Int × Known)) : BegAt (h.set be (.iidict B')) be B' := ⟨by
  have := (List.getElem?_eq_some_iff.mp G.a).1
  rw [List.getElem?_set]; simp [this]⟩
theorem fol_chain {w : Nat} (K : isKind k lo b) : ∀ {i : Nat} {m : Known} {Ls Ls' : List PyData} {Bs : List (Int × Known)}, Chain k lo b i m Ls Ls' Bs → ∀ {h : List O} {preL : List PyData} {preB : List (Int × Known)} {x2 x3 x4 : Option V} {b0 F : Nat},
    ConsAt h c bo bl be fo k → BegAt h be (preB ++ [((i : Int), m)]) → BlkAt h bl (preL ++ Ls) → OkH h → preL.length = i → (∀ p ∈ preB, p.1 < (i : Int)) → preB.length ≤ i →
    ∃ b1 r1, whileL (R (TT P) (w + 200)) (h.length + 1) folCond folBody (F + Ls.length + 1) ⟨b0, h ++ [.list [.int (i : Int)]], [some (.loc c), some (.loc h.length), x2, x3, x4]⟩ = some (.next, ⟨b1, h.set be (.iidict (preB ++ Bs)) ++ [.list []], r1⟩) := by
  intro i m Ls Ls' Bs r
  induction r with
  | @last i q q' xs xs' r1 hl =>
    intro h preL preB x2 x3 x4 b0 F C G D hh hi hB hb
    have hs : h.set be (.iidict (preB ++ [((i : Int), q)])) = h := by
      apply List.ext_getElem?
      intro j
      rw [List.getElem?_set]
      split
      · rename_i z; subst z; rw [if_pos (List.getElem?_eq_some_iff.mp G.a).1]; exact G.a.symm
      · rfl
    rw [hs]
    exact fol_last K C G D hh (findI_last hB) (by rw [← hi]; simp) r1 hl
  | @step i q q' xs xs' t t' Ls Ls' Bs r1 r2 hl hl' r3 ih =>
    intro h preL preB x2 x3 x4 b0 F C G D hh hi hB hb
    have hB1 : ∀ p ∈ preB ++ [((i : Int), q)], p.1 < ((i + 1 : Nat) : Int) := fun p hp => by
      rcases List.mem_append.mp hp with z | z
      · have := hB p z; omega
      · simp at z; subst z; simp; omega
    have hlen : (preB ++ [((i : Int), q)]).length ≤ i + 1 := by simp; omega
    obtain ⟨b1, y4, e1⟩ := fol_turn (P := P) (q := w) (F := F + Ls.length + 1) (b0 := b0) (x2 := x2) (x3 := x3) (x4 := x4) K C G D hh (findI_last hB) (by rw [← hi]; simp) r1 r2 hl hl' (findI_none hB1) (by have := D.l; rw [List.length_append, hi] at this; omega)
    rw [putI_new hB1] at e1
    have D2 : BlkAt h bl ((preL ++ [.list [.list xs, t]]) ++ Ls) := by rw [List.append_assoc]; exact D
    have hi1 : i ≤ 1000 := by have := D.l; rw [List.length_append, hi] at this; omega
    obtain ⟨b2, r2', e2⟩ := ih (h := h.set be (.iidict ((preB ++ [((i : Int), q)]) ++ [(((i + 1 : Nat) : Int), q')]))) (preL := preL ++ [.list [.list xs, t]]) (preB := preB ++ [((i : Int), q)]) (x2 := some (.d (.int (i : Int)))) (x3 := some (.d (.int ((i + 1 : Nat) : Int)))) (x4 := y4) (b0 := b1) (F := F)
        (C.setB G _) (G.setB _) (D2.setB G _) (hh.set rfl) (by simp [hi]) hB1 hlen
    rw [List.length_set] at e2
    refine ⟨b2, r2', ?_⟩
    have z : (preB ++ [((i : Int), q)]) ++ Bs = preB ++ (((i : Int), q) :: Bs) := by simp
    rw [set_set', z] at e2
    exact e1.trans e2
end Mine
end
section
open PySem PySem.W
set_option maxRecDepth 100000
set_option linter.unusedSimpArgs false
set_option linter.unusedVariables false
set_option linter.unusedSectionVars false
namespace Mine
variable {P : Params} {n : Nat} {h : List O} {k : Str} {lo : Int} {b : Nat} {c bo bl be fo : Nat}
theorem c369 {Ls Ls' : List PyData} {Bs : List (Int × Known)} (K : isKind k lo b) (r : Chain k lo b 0 [] Ls Ls' Bs) (C : ConsAt h c bo bl be fo k) (G : BegAt h be [(0, [])]) (D : BlkAt h bl Ls) (hh : OkH h) (hl : Ls.length ≤ 60) :
    (R (TT P) (n + 230)).call 369 [.loc c] h = some (.d .none, h.set be (.iidict Bs)) := by
  rw [R_call _ _ _ _ _ (at_369 P)]
  obtain ⟨b1, r1, e⟩ := fol_chain (P := P) (w := n + 28) (preL := []) (preB := []) (x2 := none) (x3 := none) (x4 := none) (b0 := h.length) (F := 63 - Ls.length) K r C G D hh rfl (fun _ hp => by cases hp) (Nat.le_refl _)
  have hf : 63 - Ls.length + Ls.length + 1 = 64 := by omega
  rw [hf] at e
  have e' : whileL (R (TT P) (n + 228)) (h.length + 1) (.cmp .NotEq (.var 1) (.lst false [])) folBody 64 ⟨h.length, h ++ [O.list [.int 0]], [some (.loc c), some (.loc h.length), none, none, none]⟩ = some (.next, ⟨b1, h.set be (.iidict Bs) ++ [O.list []], r1⟩) := e
  unfold folBody at e'
  have lx : (h.set be (O.iidict Bs)).length = h.length := List.length_set
  have u : undH h.length h.length (h.set be (O.iidict Bs) ++ [O.list []]) = true := by
    have := undH_app (a := h.length) (k := h.length) (h := h.set be (O.iidict Bs)) (t := [O.list []]) (by rw [lx]; exact Nat.le_refl _)
    rw [this]; exact undH_set rfl hh
  have tk : List.take h.length (h.set be (O.iidict Bs) ++ [O.list []]) = h.set be (O.iidict Bs) := by
    have := List.take_left' (l₁ := h.set be (O.iidict Bs)) (l₂ := [O.list []]) lx
    exact this
  simp (config := { decide := true }) [fn_369, e', u, tk, run, bindArgs, pick, exs, R_ex, R_ev, stepEx, stepEv, evs, evp, bopV, ifsAll, tst, tstN, tstA, srcOf, nextS, bindT, bindU, parts, initR, back, subV, attrV, findS, atL, idx0, idx1, idx2, idx3, idx4, idxm, short, lim, methB, mkind, sameKind, V.und, undL, truthy, isNone, bB, bI, binV, rd, cmpV, eqV, inV, natOf2, natOf3, natOf5, slcV, optNat, mkTup, allD, mkList, setS, setA, small, callB, anyEq, deq, deqs, intEq_dec, strEq_dec, sok0, sok1, sok2, sok3, sok4, sok5, sok6, sok7, sok8, sok9, sok10, sok11, sok12, sok13, sok14, sok15, sok16, sok17, sok18, sok19, sok20, sok21, sok22, sok23, sok24, sok25, sok26, sok27, sok28, sok29, sok30, sok31, sok32, sok33, sok34, sok35, sok36, sok37, sok38, sok39, sok40, sok41, sok42, sok43, sok44, sok45, sok46, sok47, sok48, sok49, sok50, lay, PyData.canLay0, PyData.canLayAll0, PyData.depth, PyData.depthAll, mkDict, dspS, dspI, dspII, putS, ite_self]
end Mine
end
section
open PySem PySem.W
set_option maxRecDepth 100000
set_option linter.unusedSimpArgs false
set_option linter.unusedVariables false
set_option linter.unusedSectionVars false
namespace Mine
variable {P : Params} {n : Nat} {h : List O} {k : Str} {lo : Int} {b : Nat} {c bo bl be fo : Nat}
theorem c228 {l : Int} (hl : l = 0 ∨ l = 1 ∨ l = 2 ∨ l = 3 ∨ l = 4) : (R (TT P) (n + 30)).call 228 [.d (typeAt k l)] h = some (.d (.bool true), h) := by
  rw [R_call _ _ _ _ _ (at_228 P)]
  rcases hl with rfl | rfl | rfl | rfl | rfl <;> simp (config := { decide := true }) [fn_228, typeAt, compS, run, bindArgs, pick, exs, R_ex, R_ev, stepEx, stepEv, evs, evp, bopV, ifsAll, tst, tstN, tstA, srcOf, nextS, bindT, bindU, parts, initR, back, subV, attrV, findS, atL, idx0, idx1, idx2, idx3, idx4, idxm, short, lim, methB, mkind, sameKind, V.und, undL, truthy, isNone, bB, bI, binV, rd, cmpV, eqV, inV, natOf2, natOf3, natOf5, slcV, optNat, mkTup, allD, mkList, setS, setA, small, callB, anyEq, deq, deqs, intEq_dec, strEq_dec, sok0, sok1, sok2, sok3, sok4, sok5, sok6, sok7, sok8, sok9, sok10, sok11, sok12, sok13, sok14, sok15, sok16, sok17, sok18, sok19, sok20, sok21, sok22, sok23, sok24, sok25, sok26, sok27, sok28, sok29, sok30, sok31, sok32, sok33, sok34, sok35, sok36, sok37, sok38, sok39, sok40, sok41, sok42, sok43, sok44, sok45, sok46, sok47, sok48, sok49, sok50, lay, PyData.canLay0, PyData.canLayAll0, PyData.depth, PyData.depthAll, mkDict, dspS, dspI, dspII, putS, ite_self]
end Mine
end
section
open PySem PySem.W
set_option maxRecDepth 100000
set_option linter.unusedSimpArgs false
set_option linter.unusedVariables false
set_option linter.unusedSectionVars false
namespace Mine
variable {P : Params} {n : Nat} {h : List O} {k : Str} {lo : Int} {b : Nat} {c bo bl be fo : Nat}
def lentIn : List S := [(.ite (.bop true [(.cmp .Eq (.sub (.var 4) (.lit (.int (0)))) (.lit (.str "assign"))), (.cmp .Eq (.sub (.sub (.var 4) (.lit (.int (2)))) (.lit (.int (0)))) (.lit (.str "ref")))]) [(.asgS (.var 1) (.sub (.sub (.sub (.var 4) (.lit (.int (2)))) (.lit (.int (3)))) (.lit (.int (0)))) (.lit (.bool true)))] [])]
theorem lent_inner {all : List PyData} {term : PyData} {w N L : Nat} : ∀ {m m' : Known} {ss ss' : List PyData}, SRs k lo b m ss ss' m' → ∀ {pre : List PyData} {b0 : Nat} {x4 : Option V}, h.length = N → all = pre ++ ss →
    ∃ b1 y4, forS (R (TT P) (w + 20)) N (.one 4) lentIn (.vals (all.map .d)) (ss.length + 1) pre.length ⟨b0, h, [some (.loc bo), some (.loc L), some (.d (.list all)), some (.d term), x4]⟩ =
      some (.next, ⟨b1, h, [some (.loc bo), some (.loc L), some (.d (.list all)), some (.d term), y4]⟩) := by
  intro m m' ss ss' r
  induction r with
  | nil q =>
    intro pre b0 x4 hN ha
    refine ⟨b0, x4, ?_⟩
    subst ha
    have : ((pre ++ []).map V.d)[pre.length]? = none := by simp
    unfold forS nextS
    simp only [this]
  | @cons q0 q1 q2 x x' xs xs' r1 r2 ih =>
    intro pre b0 x4 hN ha
    obtain ⟨b1, y4, e2⟩ := ih (pre := pre ++ [x]) (b0 := N) (x4 := some (.d x)) hN (by rw [ha]; simp)
    refine ⟨b1, y4, ?_⟩
    have nx : ((all).map V.d)[pre.length]? = some (.d x) := by rw [ha]; simp
    rw [← e2]
    subst hN
    conv => lhs; unfold forS
    cases r1 <;> simp (config := { decide := true }) [lentIn, nx, cutTo, run, bindArgs, pick, exs, R_ex, R_ev, stepEx, stepEv, evs, evp, bopV, ifsAll, tst, tstN, tstA, srcOf, nextS, bindT, bindU, parts, initR, back, subV, attrV, findS, atL, idx0, idx1, idx2, idx3, idx4, idxm, short, lim, methB, mkind, sameKind, V.und, undL, truthy, isNone, bB, bI, binV, rd, cmpV, eqV, inV, natOf2, natOf3, natOf5, slcV, optNat, mkTup, allD, mkList, setS, setA, small, callB, anyEq, deq, deqs, intEq_dec, strEq_dec, sok0, sok1, sok2, sok3, sok4, sok5, sok6, sok7, sok8, sok9, sok10, sok11, sok12, sok13, sok14, sok15, sok16, sok17, sok18, sok19, sok20, sok21, sok22, sok23, sok24, sok25, sok26, sok27, sok28, sok29, sok30, sok31, sok32, sok33, sok34, sok35, sok36, sok37, sok38, sok39, sok40, sok41, sok42, sok43, sok44, sok45, sok46, sok47, sok48, sok49, sok50, lay, PyData.canLay0, PyData.canLayAll0, PyData.depth, PyData.depthAll, mkDict, dspS, dspI, dspII, putS, ite_self]
end Mine
end
section
open PySem PySem.W
set_option maxRecDepth 100000
set_option linter.unusedSimpArgs false
set_option linter.unusedVariables false
set_option linter.unusedSectionVars false
namespace Mine
variable {P : Params} {n : Nat} {h : List O} {k : Str} {lo : Int} {b : Nat} {c bo bl be fo : Nat}
/-- blocks of statements of the row -/
inductive Blks (k : Str) (lo : Int) (b : Nat) : List PyData → Prop
  | nil : Blks k lo b []
  | cons {q q' : Known} {xs xs' : List PyData} {t : PyData} {Ls : List PyData} : SRs k lo b q xs xs' q' → xs.length ≤ 800 → Blks k lo b Ls → Blks k lo b (.list [.list xs, t] :: Ls)
theorem Chain.blks {i : Nat} {m : Known} {Ls Ls' : List PyData} {Bs : List (Int × Known)} (r : Chain k lo b i m Ls Ls' Bs) : Blks k lo b Ls := by
  induction r with
  | last h1 h2 => exact .cons h1 (by omega) .nil
  | step h1 h2 h3 h4 _ ih => exact .cons h1 (by omega) ih
theorem lent_outer {all : List PyData} {w L : Nat} (D : BlkAt h bl all) : ∀ {Ls : List PyData}, Blks k lo b Ls → ∀ {pre : List PyData} {b0 : Nat} {x2 x3 x4 : Option V}, all = pre ++ Ls →
    ∃ b1 r1, forS (R (TT P) (w + 40)) h.length (.many [2, 3]) [.for_ (.one 4) (.var 2) lentIn] (.at bl) (Ls.length + 1) pre.length ⟨b0, h, [some (.loc bo), some (.loc L), x2, x3, x4]⟩ = some (.next, ⟨b1, h, some (.loc bo) :: some (.loc L) :: r1⟩) := by
  intro Ls r
  induction r with
  | nil =>
    intro pre b0 x2 x3 x4 ha
    refine ⟨b0, [x2, x3, x4], ?_⟩
    have d := D.a
    have : all[pre.length]? = none := by rw [ha]; simp
    unfold forS nextS
    simp only [d, this]
  | @cons q q' xs xs' t Ls r1 hl r2 ih =>
    intro pre b0 x2 x3 x4 ha
    obtain ⟨b2, y4, e1⟩ := lent_inner (P := P) (h := h) (bo := bo) (L := L) (w := w + 19) (N := h.length) (all := xs) (term := t) r1 (pre := []) (b0 := h.length) (x4 := x4) rfl rfl
    obtain ⟨b1, r1', e2⟩ := ih (pre := pre ++ [.list [.list xs, t]]) (b0 := h.length) (x2 := some (.d (.list xs))) (x3 := some (.d t)) (x4 := y4) (by rw [ha]; simp)
    refine ⟨b1, r1', ?_⟩
    have d := D.a
    have nx : all[pre.length]? = some (.list [.list xs, t]) := by rw [ha]; simp
    rw [← e2]
    conv => lhs; unfold forS
    have hl' : xs.length ≤ 1000000 := by omega
    simp only [List.length_nil, Nat.add_assoc, Nat.reduceAdd] at e1
    simp (config := { decide := true }) [d, nx, cutTo, hl', e1, run, bindArgs, pick, exs, R_ex, R_ev, stepEx, stepEv, evs, evp, bopV, ifsAll, tst, tstN, tstA, srcOf, nextS, bindT, bindU, parts, initR, back, subV, attrV, findS, atL, idx0, idx1, idx2, idx3, idx4, idxm, short, lim, methB, mkind, sameKind, V.und, undL, truthy, isNone, bB, bI, binV, rd, cmpV, eqV, inV, natOf2, natOf3, natOf5, slcV, optNat, mkTup, allD, mkList, setS, setA, small, callB, anyEq, deq, deqs, intEq_dec, strEq_dec, sok0, sok1, sok2, sok3, sok4, sok5, sok6, sok7, sok8, sok9, sok10, sok11, sok12, sok13, sok14, sok15, sok16, sok17, sok18, sok19, sok20, sok21, sok22, sok23, sok24, sok25, sok26, sok27, sok28, sok29, sok30, sok31, sok32, sok33, sok34, sok35, sok36, sok37, sok38, sok39, sok40, sok41, sok42, sok43, sok44, sok45, sok46, sok47, sok48, sok49, sok50, lay, PyData.canLay0, PyData.canLayAll0, PyData.depth, PyData.depthAll, mkDict, dspS, dspI, dspII, putS, ite_self]
end Mine
end
section
open PySem PySem.W
set_option maxRecDepth 100000
set_option linter.unusedSimpArgs false
set_option linter.unusedVariables false
set_option linter.unusedSectionVars false
namespace Mine
variable {P : Params} {n : Nat} {h : List O} {k : Str} {lo : Int} {b : Nat} {c bo bl be fo : Nat}
theorem c235 {Ls : List PyData} {l : List (Str × V)} (hb : h[bo]? = some (.attrs 193 [("name", .d (.str "f")), ("arg_count", .d (.int 0)), ("locals", .d (.list (localsL k))), ("blocks", .loc bl), ("spots", .idict [])])) (D : BlkAt h bl Ls) (r : Blks k lo b Ls) (hh : OkH h) :
    (R (TT P) (n + 60)).call 235 [.loc bo] h = some (.idict [], h) := by
  rw [R_call _ _ _ _ _ (at_235 P)]
  have D1 : BlkAt (h ++ [O.idict []]) bl Ls := D.app _
  obtain ⟨b1, r1, e⟩ := lent_outer (P := P) (bo := bo) (L := h.length) (w := n + 18) D1 r (pre := []) (b0 := h.length) (x2 := none) (x3 := none) (x4 := none) rfl
  have d := D1.a
  have hb' : (h ++ [O.idict []])[bo]? = some (.attrs 193 [("name", .d (.str "f")), ("arg_count", .d (.int 0)), ("locals", .d (.list (localsL k))), ("blocks", .loc bl), ("spots", .idict [])]) := get_app hb
  have hl : Ls.length ≤ 1000000 := Nat.le_trans D.l (by decide)
  have u : undH h.length h.length (h ++ [O.idict []]) = true := (undH_app (Nat.le_refl _)).trans hh
  have tk : List.take h.length (h ++ [O.idict []]) = h := by simp
  have g : (h ++ [O.idict []])[h.length]? = some (.idict []) := by simp
  have le : (h ++ [O.idict []]).length = h.length + 1 := by simp
  simp only [List.length_nil, Nat.add_assoc, Nat.reduceAdd, le] at e
  unfold lentIn at e
  simp (config := { decide := true }) [fn_235, hb', d, hl, e, u, tk, g, run, bindArgs, pick, exs, R_ex, R_ev, stepEx, stepEv, evs, evp, bopV, ifsAll, tst, tstN, tstA, srcOf, nextS, bindT, bindU, parts, initR, back, subV, attrV, findS, atL, idx0, idx1, idx2, idx3, idx4, idxm, short, lim, methB, mkind, sameKind, V.und, undL, truthy, isNone, bB, bI, binV, rd, cmpV, eqV, inV, natOf2, natOf3, natOf5, slcV, optNat, mkTup, allD, mkList, setS, setA, small, callB, anyEq, deq, deqs, intEq_dec, strEq_dec, sok0, sok1, sok2, sok3, sok4, sok5, sok6, sok7, sok8, sok9, sok10, sok11, sok12, sok13, sok14, sok15, sok16, sok17, sok18, sok19, sok20, sok21, sok22, sok23, sok24, sok25, sok26, sok27, sok28, sok29, sok30, sok31, sok32, sok33, sok34, sok35, sok36, sok37, sok38, sok39, sok40, sok41, sok42, sok43, sok44, sok45, sok46, sok47, sok48, sok49, sok50, lay, PyData.canLay0, PyData.canLayAll0, PyData.depth, PyData.depthAll, mkDict, dspS, dspI, dspII, putS, ite_self]
end Mine
end
section
open PySem PySem.W
set_option maxRecDepth 100000
set_option linter.unusedSimpArgs false
set_option linter.unusedVariables false
set_option linter.unusedSectionVars false
namespace Mine
variable {P : Params} {n : Nat} {h : List O} {k : Str} {lo : Int} {b : Nat} {c bo bl be fo : Nat}
theorem c298 {Ls : List PyData} (hb : h[bo]? = some (.attrs 193 [("name", .d (.str "f")), ("arg_count", .d (.int 0)), ("locals", .d (.list (localsL k))), ("blocks", .loc bl), ("spots", .idict [])])) (D : BlkAt h bl Ls) (r : Blks k lo b Ls) (hh : OkH h) :
    (R (TT P) (n + 90)).call 298 [.loc h.length, .loc bo] (h ++ [.attrs 396 []]) =
      some (.d .none, h ++ [.attrs 396 [("body", .loc bo), ("followed", .loc (h.length + 1)), ("begins", .loc (h.length + 2))], .idict folM, .iidict [(0, [])]]) := by
  rw [R_call _ _ _ _ _ (at_298 P)]
  let h1 : List O := h ++ [.attrs 396 [("body", .loc bo)]]
  have o1 : OkH h1 := hh.app (by
    have hbo := (List.getElem?_eq_some_iff.mp hb).1
    simp [undH, O.und, undA, V.und]; omega)
  have e1 : ∀ n, (R (TT P) (n + 60)).call 235 [.loc bo] (h ++ [O.attrs 396 [("body", .loc bo)]]) = some (.idict [], h ++ [O.attrs 396 [("body", .loc bo)]]) := fun n => c235 (k := k) (l := []) (get_app hb) (D.app _) r o1
  have e2 := fun n h l hl => c228 (P := P) (n := n) (h := h) (k := k) (l := l) hl
  have f0 := fun n h => e2 n h 0 (by decide)
  have f1 := fun n h => e2 n h 1 (by decide)
  have f2 := fun n h => e2 n h 2 (by decide)
  have f3 := fun n h => e2 n h 3 (by decide)
  have f4 := fun n h => e2 n h 4 (by decide)
  simp only [typeAt] at f0 f1 f2 f3 f4
  simp (config := { decide := true }) at f0 f1 f2 f3 f4
  have gb : ∀ t : List O, (h ++ t)[bo]? = _ := fun t => get_app (t := t) hb
  have g0 : ∀ (a : O) (t : List O), (h ++ a :: t)[h.length]? = some a := fun a t => by simp
  have g1 : ∀ (a b : O) (t : List O), (h ++ a :: b :: t)[h.length + 1]? = some b := fun a b t => by
    rw [List.getElem?_append_right (Nat.le_succ _)]; simp
  have s0 : ∀ (a z : O) (t : List O), (h ++ a :: t).set h.length z = h ++ z :: t := fun a z t => by simp
  have s1 : ∀ (a b z : O) (t : List O), (h ++ a :: b :: t).set (h.length + 1) z = h ++ a :: z :: t := fun a b z t => by
    rw [List.set_append_right _ _ (Nat.le_succ _)]; simp
  have u : ∀ (a b : O), undH (h.length + 1) (h.length + 1) (h ++ [.attrs 396 [("body", .loc bo), ("followed", .loc (h.length + 1)), ("begins", .loc (h.length + 2))], a, b]) = false := fun a b => by
    rw [undH_split]
    have : undH (h.length + 1) 1 [.attrs 396 [("body", .loc bo), ("followed", .loc (h.length + 1)), ("begins", .loc (h.length + 2))], a, b] = false := by
      simp [undH, O.und, undA, V.und]
    rw [this, Bool.and_false]
  simp (config := { decide := true }) [u, fn_298, forRL, cutTo, gb, g0, g1, s0, s1, e1, f0, f1, f2, f3, f4, natOf5, folM, putI, run, bindArgs, pick, exs, R_ex, R_ev, stepEx, stepEv, evs, evp, bopV, ifsAll, tst, tstN, tstA, srcOf, nextS, bindT, bindU, parts, initR, back, subV, attrV, findS, atL, idx0, idx1, idx2, idx3, idx4, idxm, short, lim, methB, mkind, sameKind, V.und, undL, truthy, isNone, bB, bI, binV, rd, cmpV, eqV, inV, natOf2, natOf3, natOf5, slcV, optNat, mkTup, allD, mkList, setS, setA, small, callB, anyEq, deq, deqs, intEq_dec, strEq_dec, sok0, sok1, sok2, sok3, sok4, sok5, sok6, sok7, sok8, sok9, sok10, sok11, sok12, sok13, sok14, sok15, sok16, sok17, sok18, sok19, sok20, sok21, sok22, sok23, sok24, sok25, sok26, sok27, sok28, sok29, sok30, sok31, sok32, sok33, sok34, sok35, sok36, sok37, sok38, sok39, sok40, sok41, sok42, sok43, sok44, sok45, sok46, sok47, sok48, sok49, sok50, lay, PyData.canLay0, PyData.canLayAll0, PyData.depth, PyData.depthAll, mkDict, dspS, dspI, dspII, putS, ite_self]
end Mine
end
section
open PySem PySem.W
set_option maxRecDepth 100000
set_option linter.unusedSimpArgs false
set_option linter.unusedVariables false
set_option linter.unusedSectionVars false
namespace Mine
variable {P : Params} {n : Nat} {h : List O} {k : Str} {lo : Int} {b : Nat} {f kf c bo bl be fo : Nat}
def wcIn : List S := [(.expr (.methB .append (.var 7) [(.methI "put_statement" (.var 1) [(.var 8), (.var 4)])])), (.expr (.methI "step" (.var 1) [(.var 8), (.var 4)]))]
theorem wc_inner (K : isKind k lo b) {num term : PyData} {all : List PyData} {w N M bb fd : Nat} {rest : List (Option V)} : ∀ {m m' : Known} {ss ss' : List PyData}, SRs k lo b m ss ss' m' → ∀ {h : List O} {pre acc : List PyData} {b0 : Nat} {x8 : Option V},
    FactsAt h f kf m → ConsAt h c bo bl be fo k → kf ≠ fo → h.length = N → m.length + ss.length ≤ 800 → all = pre ++ ss → h[M]? = some (.list acc) → acc.length + ss.length ≤ 1000 →
    ∃ b1 y8, forS (R (TT P) (w + 160)) N (.one 8) wcIn (.vals (all.map .d)) (ss.length + 1) pre.length ⟨b0, h, some (.loc bb) :: some (.loc c) :: some (.loc fd) :: some (.d num) :: some (.loc f) :: some (.d (.list all)) :: some (.d term) :: some (.loc M) :: x8 :: rest⟩ =
      some (.next, ⟨b1, (h.set M (.list (acc ++ ss'))).set kf (.idict m'), some (.loc bb) :: some (.loc c) :: some (.loc fd) :: some (.d num) :: some (.loc f) :: some (.d (.list all)) :: some (.d term) :: some (.loc M) :: y8 :: rest⟩) := by
  intro m m' ss ss' r
  induction r with
  | nil q' =>
    intro h pre acc b0 x8 F C hne hN hl ha hM hac
    have hk := (List.getElem?_eq_some_iff.mp F.b)
    have same : ∀ {i : Nat} {o : O}, h[i]? = some o → h.set i o = h := fun {i o} e => by
      apply List.ext_getElem?
      intro j
      rw [List.getElem?_set]
      split
      · rename_i z; subst z; rw [if_pos (List.getElem?_eq_some_iff.mp e).1]; exact e.symm
      · rfl
    refine ⟨b0, x8, ?_⟩
    rw [List.append_nil, same hM, same F.b]
    subst ha
    have : ((pre ++ []).map V.d)[pre.length]? = none := by simp
    unfold forS nextS
    simp only [this]
  | @cons q0 q1 q2 x x' xs xs' r1 r2 ih =>
    intro h pre acc b0 x8 F C hne hN hl ha hM hac
    have hlen := r1.len
    simp only [List.length_cons] at hl hac
    have hMk : M ≠ kf := fun z => by rw [z, F.b] at hM; cases hM
    have hMf : M ≠ f := fun z => by rw [z, F.a] at hM; cases hM
    let h1 := h.set M (.list (acc ++ [x']))
    have keep : ∀ {i : Nat} {o : O}, h[i]? = some o → i ≠ M → h1[i]? = some o := fun {i o} e ne => by show (h.set M _)[i]? = _; rw [List.getElem?_set, if_neg (Ne.symm ne)]; exact e
    have nc : c ≠ M := fun z => by have := C.a; rw [z, hM] at this; cases this
    have nb : bo ≠ M := fun z => by have := C.b; rw [z, hM] at this; cases this
    have nf : fo ≠ M := fun z => by have := C.f; rw [z, hM] at this; cases this
    have F1 : FactsAt h1 f kf q0 := ⟨keep F.a hMf.symm, keep F.b hMk.symm⟩
    have C1 : ConsAt h1 c bo bl be fo k := ⟨keep C.a nc, keep C.b nb, keep C.f nf⟩
    have e1 := fun n => sr_puts (P := P) (n := n) K F C r1
    have e2 := fun n => sr_step (P := P) (n := n) K F1 C1 hne (by omega) r1
    have F2 := F1.set q1
    have C2 := C1.set F1 hne q1
    have hMl := (List.getElem?_eq_some_iff.mp hM).1
    have hM2 : (h1.set kf (.idict q1))[M]? = some (.list (acc ++ [x'])) := by
      rw [List.getElem?_set, if_neg (Ne.symm hMk)]
      show (h.set M _)[M]? = _
      rw [List.getElem?_set]; simp [hMl]
    obtain ⟨b1, y8, e3⟩ := ih (h := h1.set kf (.idict q1)) (pre := pre ++ [x]) (acc := acc ++ [x']) (b0 := N) (x8 := some (.d x)) F2 C2 hne (by simp [h1, hN]) (by omega) (by rw [ha]; simp) hM2 (by simp; omega)
    have sw : ∀ (u v w : O), (((h.set M u).set kf v).set M w) = (h.set M w).set kf v := fun u v w => by
      rw [List.set_comm _ _ hMk.symm, List.set_set]
    refine ⟨b1, y8, ?_⟩
    have z : acc ++ [x'] ++ xs' = acc ++ x' :: xs' := by simp
    rw [z, sw, List.set_set] at e3
    have nx : ((all).map V.d)[pre.length]? = some (.d x) := by rw [ha]; simp
    rw [← e3]
    have k2 := cls396 (P := P)
    have c1 := C.a
    have c1' : (h.set M (.list (acc ++ [x'])))[c]? = some (.attrs 396 [("body", .loc bo), ("followed", .loc fo), ("begins", .loc be)]) := C1.a
    have hac' : acc.length ≤ 1000000 := by omega
    subst hN
    conv => lhs; unfold forS
    simp (config := { decide := true }) [wcIn, nx, cutTo, c1, c1', k2, hM, hac', e1, e2, h1, run, bindArgs, pick, exs, R_ex, R_ev, stepEx, stepEv, evs, evp, bopV, ifsAll, tst, tstN, tstA, srcOf, nextS, bindT, bindU, parts, initR, back, subV, attrV, findS, atL, idx0, idx1, idx2, idx3, idx4, idxm, short, lim, methB, mkind, sameKind, V.und, undL, truthy, isNone, bB, bI, binV, rd, cmpV, eqV, inV, natOf2, natOf3, natOf5, slcV, optNat, mkTup, allD, mkList, setS, setA, small, callB, anyEq, deq, deqs, intEq_dec, strEq_dec, sok0, sok1, sok2, sok3, sok4, sok5, sok6, sok7, sok8, sok9, sok10, sok11, sok12, sok13, sok14, sok15, sok16, sok17, sok18, sok19, sok20, sok21, sok22, sok23, sok24, sok25, sok26, sok27, sok28, sok29, sok30, sok31, sok32, sok33, sok34, sok35, sok36, sok37, sok38, sok39, sok40, sok41, sok42, sok43, sok44, sok45, sok46, sok47, sok48, sok49, sok50, lay, PyData.canLay0, PyData.canLayAll0, PyData.depth, PyData.depthAll, mkDict, dspS, dspI, dspII, putS, ite_self]
end Mine
end
section
open PySem PySem.W
set_option maxRecDepth 100000
set_option linter.unusedSimpArgs false
set_option linter.unusedVariables false
set_option linter.unusedSectionVars false
namespace Mine
variable {P : Params} {n : Nat} {h : List O} {k : Str} {lo : Int} {b : Nat} {f kf c bo bl be fo : Nat}
theorem copy_comp {all : List PyData} {w : Nat} (D : BlkAt h bl all) : ∀ {Ls : List PyData}, Blks k lo b Ls → ∀ {pre : List PyData} {x0 x1 x2 x3 : Option V}, all = pre ++ Ls →
    compS (R (TT P) (w + 20)) (.lst false [(.callB false .list [(.var 1)]), (.var 2)]) (.many [1, 2]) [] (.at bl) (Ls.length + 1) pre.length [x0, x1, x2, x3] h = some (Ls.map .d, h) := by
  intro Ls r
  induction r with
  | nil =>
    intro pre x0 x1 x2 x3 ha
    have d := D.a
    have : all[pre.length]? = none := by rw [ha]; simp
    unfold compS nextS
    simp only [d, this]
    rfl
  | @cons q q' xs xs' t Ls r1 hl r2 ih =>
    intro pre x0 x1 x2 x3 ha
    have e2 := ih (pre := pre ++ [.list [.list xs, t]]) (x0 := x0) (x1 := some (.d (.list xs))) (x2 := some (.d t)) (x3 := x3) (by rw [ha]; simp)
    have d := D.a
    have nx : all[pre.length]? = some (.list [.list xs, t]) := by rw [ha]; simp
    have hl' : xs.length ≤ 1000000 := by omega
    have e2' : compS (R (TT P) (w + 20)) (.lst false [(.callB false .list [(.var 1)]), (.var 2)]) (.many [1, 2]) [] (.at bl) (Ls.length + 1) (pre.length + 1) [x0, some (.d (.list xs)), some (.d t), x3] h = some (Ls.map .d, h) := by
      have := e2; simpa using this
    conv => lhs; unfold compS
    simp (config := { decide := true }) [d, nx, hl', e2', run, bindArgs, pick, exs, R_ex, R_ev, stepEx, stepEv, evs, evp, bopV, ifsAll, tst, tstN, tstA, srcOf, nextS, bindT, bindU, parts, initR, back, subV, attrV, findS, atL, idx0, idx1, idx2, idx3, idx4, idxm, short, lim, methB, mkind, sameKind, V.und, undL, truthy, isNone, bB, bI, binV, rd, cmpV, eqV, inV, natOf2, natOf3, natOf5, slcV, optNat, mkTup, allD, mkList, setS, setA, small, callB, anyEq, deq, deqs, intEq_dec, strEq_dec, sok0, sok1, sok2, sok3, sok4, sok5, sok6, sok7, sok8, sok9, sok10, sok11, sok12, sok13, sok14, sok15, sok16, sok17, sok18, sok19, sok20, sok21, sok22, sok23, sok24, sok25, sok26, sok27, sok28, sok29, sok30, sok31, sok32, sok33, sok34, sok35, sok36, sok37, sok38, sok39, sok40, sok41, sok42, sok43, sok44, sok45, sok46, sok47, sok48, sok49, sok50, lay, PyData.canLay0, PyData.canLayAll0, PyData.depth, PyData.depthAll, mkDict, dspS, dspI, dspII, putS, ite_self]
end Mine
end
section
open PySem PySem.W
set_option maxRecDepth 100000
set_option linter.unusedSimpArgs false
set_option linter.unusedVariables false
set_option linter.unusedSectionVars false
namespace Mine
variable {P : Params} {n : Nat} {h : List O} {k : Str} {lo : Int} {b : Nat} {f kf c bo bl be fo : Nat}
theorem c147 {B : Nat} (hB : B < h.length) : ∃ h', (R (TT P) (n + 30)).call 147 [.loc h.length, .d (.str "f"), .d (.int 0), .d (.list (localsL k)), .loc B, .idict []] (h ++ [.attrs 193 []]) = some (.d .none, h') ∧
    h' = h ++ [.attrs 193 [("name", .d (.str "f")), ("arg_count", .d (.int 0)), ("locals", .d (.list (localsL k))), ("blocks", .loc B), ("spots", .idict [])]] := by
  refine ⟨_, ?_, rfl⟩
  rw [R_call _ _ _ _ _ (at_147 P)]
  have g0 : ∀ (a : O) (t : List O), (h ++ a :: t)[h.length]? = some a := fun a t => by simp
  have s0 : ∀ (a z : O) (t : List O), (h ++ a :: t).set h.length z = h ++ z :: t := fun a z t => by simp
  simp (config := { decide := true }) [fn_147, g0, s0, run, bindArgs, pick, exs, R_ex, R_ev, stepEx, stepEv, evs, evp, bopV, ifsAll, tst, tstN, tstA, srcOf, nextS, bindT, bindU, parts, initR, back, subV, attrV, findS, atL, idx0, idx1, idx2, idx3, idx4, idxm, short, lim, methB, mkind, sameKind, V.und, undL, truthy, isNone, bB, bI, binV, rd, cmpV, eqV, inV, natOf2, natOf3, natOf5, slcV, optNat, mkTup, allD, mkList, setS, setA, small, callB, anyEq, deq, deqs, intEq_dec, strEq_dec, sok0, sok1, sok2, sok3, sok4, sok5, sok6, sok7, sok8, sok9, sok10, sok11, sok12, sok13, sok14, sok15, sok16, sok17, sok18, sok19, sok20, sok21, sok22, sok23, sok24, sok25, sok26, sok27, sok28, sok29, sok30, sok31, sok32, sok33, sok34, sok35, sok36, sok37, sok38, sok39, sok40, sok41, sok42, sok43, sok44, sok45, sok46, sok47, sok48, sok49, sok50, lay, PyData.canLay0, PyData.canLayAll0, PyData.depth, PyData.depthAll, mkDict, dspS, dspI, dspII, putS, ite_self]
  intro _
  exact List.take_of_length_le (by simp)
end Mine
end
section
open PySem PySem.W
set_option maxRecDepth 100000
set_option linter.unusedSimpArgs false
set_option linter.unusedVariables false
set_option linter.unusedSectionVars false
namespace Mine
variable {P : Params} {n : Nat} {h : List O} {k : Str} {lo : Int} {b : Nat} {f kf c bo bl be fo : Nat}
/-- a body as it stands in the heap -/
abbrev bodyO (k : Str) (bl : Nat) : O := .attrs 193 [("name", .d (.str "f")), ("arg_count", .d (.int 0)), ("locals", .d (.list (localsL k))), ("blocks", .loc bl), ("spots", .idict [])]
theorem cls193 : ∃ x y, findN 193 (TT P).clss = some ⟨147, x, y⟩ := by
  have e : (findN 193 (TT P).clss).map Cl.init = some 147 := by kernel_rfl
  cases q : findN 193 (TT P).clss with
  | none => rw [q] at e; cases e
  | some c => obtain ⟨i, x, y⟩ := c; rw [q] at e; cases e; exact ⟨x, y, rfl⟩
theorem c207 {Ls : List PyData} (hb : h[bo]? = some (bodyO k bl)) (D : BlkAt h bl Ls) (r : Blks k lo b Ls) :
    (R (TT P) (n + 50)).call 207 [.loc bo] h = some (.loc (h.length + 1), h ++ [.list Ls, bodyO k h.length]) := by
  rw [R_call _ _ _ _ _ (at_207 P)]
  obtain ⟨x, y, k1⟩ := cls193 (P := P)
  have e1 := copy_comp (P := P) (w := n + 27) D r (pre := []) (x0 := none) (x1 := none) (x2 := none) (x3 := none) rfl
  simp only [List.length_nil, Nat.add_assoc, Nat.reduceAdd] at e1
  have hl : Ls.length ≤ 1000000 := Nat.le_trans D.l (by decide)
  have all : ∀ l : List PyData, allD (l.map .d) = some l := fun l => by
    induction l with
    | nil => rfl
    | cons x l ih => rw [List.map_cons]; unfold allD; rw [ih]
  have gb : ∀ t : List O, (h ++ t)[bo]? = some (bodyO k bl) := fun t => get_app hb
  obtain ⟨h', e2, e3⟩ := c147 (P := P) (n := n + 17) (h := h ++ [O.list Ls]) (k := k) (B := h.length) (by simp)
  subst e3
  have l1 : (h ++ [O.list Ls]).length = h.length + 1 := by simp
  have a1 : ∀ x : O, h ++ [O.list Ls] ++ [x] = h ++ [O.list Ls, x] := fun x => by simp
  rw [l1, a1, a1] at e2
  have e2' : (R (TT P) (n + 47)).call 147 [.loc (h.length + 1), .d (.str "f"), .d (.int 0), .d (.list (localsL k)), .loc h.length, .idict []] (h ++ [.list Ls, .attrs 193 []]) = some (.d .none, h ++ [.list Ls, bodyO k h.length]) := e2
  have u : V.und h.length (.loc (h.length + 1)) = false := by
    show Nat.blt (h.length + 1) h.length = false
    cases q : Nat.blt (h.length + 1) h.length
    · rfl
    · exact absurd (Nat.blt_eq.mp q) (by omega)
  simp (config := { decide := true }) [fn_207, hb, D.a, hl, all, gb, e1, e2', k1, u, run, bindArgs, pick, exs, R_ex, R_ev, stepEx, stepEv, evs, evp, bopV, ifsAll, tst, tstN, tstA, srcOf, nextS, bindT, bindU, parts, initR, back, subV, attrV, findS, atL, idx0, idx1, idx2, idx3, idx4, idxm, short, lim, methB, mkind, sameKind, V.und, undL, truthy, isNone, bB, bI, binV, rd, cmpV, eqV, inV, natOf2, natOf3, natOf5, slcV, optNat, mkTup, allD, mkList, setS, setA, small, callB, anyEq, deq, deqs, intEq_dec, strEq_dec, sok0, sok1, sok2, sok3, sok4, sok5, sok6, sok7, sok8, sok9, sok10, sok11, sok12, sok13, sok14, sok15, sok16, sok17, sok18, sok19, sok20, sok21, sok22, sok23, sok24, sok25, sok26, sok27, sok28, sok29, sok30, sok31, sok32, sok33, sok34, sok35, sok36, sok37, sok38, sok39, sok40, sok41, sok42, sok43, sok44, sok45, sok46, sok47, sok48, sok49, sok50, lay, PyData.canLay0, PyData.canLayAll0, PyData.depth, PyData.depthAll, mkDict, dspS, dspI, dspII, putS, ite_self]
  intro z
  omega
end Mine
end
section
open PySem PySem.W
set_option maxRecDepth 100000
set_option linter.unusedSimpArgs false
set_option linter.unusedVariables false
set_option linter.unusedSectionVars false
namespace Mine
variable {P : Params} {n : Nat} {h : List O} {k : Str} {lo : Int} {b : Nat} {f kf c bo bl be fo fd fb : Nat}
def wcBody : List S := [(.asg 4 (.callC 273 [(.sub (.attr (.var 1) "begins") (.var 3))])),
    (.unp false [5, 6] (.sub (.attr (.var 0) "blocks") (.var 3))),
    (.asg 7 (.lst true [])),
    (.for_ (.one 8) (.var 5) wcIn),
    (.asgSM (.attr (.var 2) "blocks") (.var 3) 7 (.methI "put_terminator" (.var 1) [(.var 6), (.var 4)]))]
theorem wc_turn {i : Nat} {m m' : Known} {B : List (Int × Known)} {Ls Ls' ss ss' keys : List PyData} {t t' : PyData} {g : Option Int} {x3 x4 x5 x6 x7 x8 : Option V} {q b0 F j : Nat}
    (K : isKind k lo b) (C : ConsAt h c bo bl be fo k) (G : BegAt h be B) (D : BlkAt h bl Ls) (D' : BlkAt h fb Ls') (hfd : h[fd]? = some (bodyO k fb)) (hh : OkH h)
    (hB : findI (i : Int) B = some m) (hL : Ls[i]? = some (.list [.list ss, t])) (hi' : i < Ls'.length) (r : SRs k lo b m ss ss' m') (r2 : TR m' t t' g) (hl : m.length + ss.length ≤ 800) (hk : keys[j]? = some (.int (i : Int))) :
    ∃ b1 y3 y4 y5 y6 y7 y8, forS (R (TT P) (q + 200)) h.length (.one 3) wcBody (.vals (keys.map .d)) (F + 1) j ⟨b0, h, [some (.loc bo), some (.loc c), some (.loc fd), x3, x4, x5, x6, x7, x8, none, none, none, none]⟩ =
      forS (R (TT P) (q + 200)) h.length (.one 3) wcBody (.vals (keys.map .d)) F (j + 1) ⟨b1, h.set fb (.list (Ls'.set i (.list [.list ss', t']))), [some (.loc bo), some (.loc c), some (.loc fd), y3, y4, y5, y6, y7, y8, none, none, none, none]⟩ := by
  have hc := (List.getElem?_eq_some_iff.mp C.a).1
  have hbo := (List.getElem?_eq_some_iff.mp C.b).1
  have hfo := (List.getElem?_eq_some_iff.mp C.f).1
  have hfdl := (List.getElem?_eq_some_iff.mp hfd).1
  have hfb := (List.getElem?_eq_some_iff.mp D'.a).1
  have e1 := fun n => c249 (P := P) (n := n) (h := h) (m := m) (by omega)
  let h3 : List O := h ++ [.attrs 273 [("known", .loc (h.length + 1))], .idict m, .list []]
  have F3 : FactsAt h3 h.length (h.length + 1) m := ⟨by simp [h3], by
    show (h ++ _)[h.length + 1]? = _
    rw [List.getElem?_append_right (Nat.le_succ _)]; simp⟩
  have C3 : ConsAt h3 c bo bl be fo k := C.app _
  have M3 : h3[h.length + 2]? = some (.list []) := by
    show (h ++ _)[h.length + 2]? = _
    rw [List.getElem?_append_right (Nat.le_add_right _ _)]; simp
  obtain ⟨b1, y8, e2⟩ := wc_inner (P := P) K (num := .int (i : Int)) (term := t) (all := ss) (w := q + 39) (N := h.length + 3) (M := h.length + 2) (bb := bo) (fd := fd) (rest := [none, none, none, none]) r (h := h3) (pre := []) (acc := []) (b0 := h.length) (x8 := x8)
    F3 C3 (by omega) (by simp [h3]) hl rfl M3 (by simp; omega)
  let h4 : List O := h ++ [.attrs 273 [("known", .loc (h.length + 1))], .idict m', .list ss']
  have s3 : (h3.set (h.length + 2) (.list ([] ++ ss'))).set (h.length + 1) (.idict m') = h4 := by
    show ((h ++ _).set (h.length + 2) _).set (h.length + 1) _ = _
    rw [List.set_append_right _ _ (Nat.le_add_right _ _), List.set_append_right _ _ (Nat.le_succ _)]
    simp [h4]
  rw [s3] at e2
  simp only [List.length_nil, Nat.add_assoc, Nat.reduceAdd] at e2
  have F4 : FactsAt h4 h.length (h.length + 1) m' := ⟨by simp [h4], by
    show (h ++ _)[h.length + 1]? = _
    rw [List.getElem?_append_right (Nat.le_succ _)]; simp⟩
  have C4 : ConsAt h4 c bo bl be fo k := C.app _
  have e3 := fun n => tr_put (P := P) (n := n) K F4 C4 r2
  have lt : ∀ {a i : Nat}, i < a → V.und a (.loc i) = true := fun {a i} hi => Nat.blt_eq.mpr hi
  have pz : ∀ {a i : Nat}, i < a → poison a (some (.loc i)) = some (.loc i) := fun {a i} hi => by
    unfold poison; dsimp only; rw [lt hi]; rfl
  have pd : ∀ (a : Nat) (x : PyData), poison a (some (.d x)) = some (.d x) := fun a x => rfl
  have pn : ∀ (a : Nat), poison a none = none := fun a => rfl
  have p1 := pz (a := h.length + 2) (i := bo) (by omega)
  have p2 := pz (a := h.length + 2) (i := c) (by omega)
  have p3 := pz (a := h.length + 2) (i := fd) (by omega)
  have p4 := pz (a := h.length + 2) (i := h.length) (by omega)
  have p5 := pz (a := h.length) (i := bo) (by omega)
  have p6 := pz (a := h.length) (i := c) (by omega)
  have p7 := pz (a := h.length) (i := fd) (by omega)
  have u1 : undH (h.length + 2) (h.length + 2) h4 = true := by
    show undH (h.length + 2) (h.length + 2) (h ++ _) = true
    rw [undH_split (a := h.length + 2) (h := h) (j := 2), undH_mono (Nat.le_add_right _ _) hh, Bool.true_and]
    simp [undH, O.und, undA, V.und]
  have t1 : List.take (h.length + 2) h4 = h ++ [.attrs 273 [("known", .loc (h.length + 1))], .idict m'] := by
    show List.take (h.length + 2) (h ++ _) = _
    rw [List.take_length_add_append (l₁ := h) (i := 2)]; rfl
  have X : O := .list (Ls'.set i (.list [.list ss', t']))
  have sb : ∀ (t : List O) (x : O), (h ++ t).set fb x = h.set fb x ++ t := fun t x => List.set_append_left _ _ hfb
  have lx : ∀ x : O, (h.set fb x).length = h.length := fun x => List.length_set
  have u2 : ∀ (x : List PyData) (t : List O), undH h.length h.length (h.set fb (.list x) ++ t) = true := fun x t => by
    have := undH_app (a := h.length) (k := h.length) (h := h.set fb (O.list x)) (t := t) (by rw [lx]; exact Nat.le_refl _)
    rw [this]; exact undH_set rfl hh
  have t2 : ∀ (x : O) (t : List O), List.take h.length (h.set fb x ++ t) = h.set fb x := fun x t => List.take_left' (lx x)
  have g0 : ∀ t : List O, (h ++ t)[c]? = _ := fun t => get_app C.a
  have g1 : ∀ t : List O, (h ++ t)[bo]? = _ := fun t => get_app C.b
  have g2 : ∀ t : List O, (h ++ t)[bl]? = _ := fun t => get_app D.a
  have g3 : ∀ t : List O, (h ++ t)[fd]? = _ := fun t => get_app hfd
  have g4 : ∀ t : List O, (h ++ t)[fb]? = _ := fun t => get_app D'.a
  have m4 : h4[h.length + 2]? = some (.list ss') := by
    show (h ++ _)[h.length + 2]? = _
    rw [List.getElem?_append_right (Nat.le_add_right _ _)]; simp
  have hiL : i < Ls.length := (List.getElem?_eq_some_iff.mp hL).1
  have hL' : Ls[i] = .list [.list ss, t] := Option.some.inj ((List.getElem?_eq_getElem hiL).symm.trans hL)
  have hl1 : Ls.length ≤ 1000000 := Nat.le_trans D.l (by decide)
  have hl2 : ss.length ≤ 1000000 := by omega
  have hl3 : Ls'.length ≤ 1000000 := Nat.le_trans D'.l (by decide)
  have nx : (keys.map V.d)[j]? = some (.d (.int (i : Int))) := by rw [List.getElem?_map, hk]; rfl
  have k1 := cls273 (P := P)
  have k2 := cls396 (P := P)
  have c1 := C.a
  have gA := G.a
  refine ⟨h.length, some (.d (.int (i : Int))), some .bad, some (.d (.list ss)), some (.d t), none, poison h.length (poison (h.length + 2) y8), ?_⟩
  have e1' : ∀ n, (R (TT P) (n + 20)).call 249 [.loc h.length, .idict m] (h ++ [.attrs 273 []]) = some (.d .none, h ++ [.attrs 273 [("known", .loc (h.length + 1))], .idict m]) := e1
  simp only [h3, h4] at e2 e3 u1 t1 m4
  have p8 : poison h.length (some (.loc h.length)) = some .bad := by
    unfold poison
    have : V.und h.length (.loc h.length) = false := by
      show Nat.blt h.length h.length = false
      cases q : Nat.blt h.length h.length
      · rfl
      · exact absurd (Nat.blt_eq.mp q) (Nat.lt_irrefl _)
    dsimp only
    rw [this]; rfl
  have p9 : ¬ (h.length + 2 ≤ h.length) := by omega
  conv => lhs; unfold forS
  simp (config := { decide := true }) [wcBody, nx, k1, k2, c1, gA, hB, e1', g0, g1, g2, g3, g4, hL', hiL, hl1, hl2, hl3, hi', e2, e3, idx_nat, takeM, u1, t1, m4, cutTo, cut, p1, p2, p3, p4, p5, p6, p7, pd, pn, sb, u2, t2, p8, p9, run, bindArgs, pick, exs, R_ex, R_ev, stepEx, stepEv, evs, evp, bopV, ifsAll, tst, tstN, tstA, srcOf, nextS, bindT, bindU, parts, initR, back, subV, attrV, findS, atL, idx0, idx1, idx2, idx3, idx4, idxm, short, lim, methB, mkind, sameKind, V.und, undL, truthy, isNone, bB, bI, binV, rd, cmpV, eqV, inV, natOf2, natOf3, natOf5, slcV, optNat, mkTup, allD, mkList, setS, setA, small, callB, anyEq, deq, deqs, intEq_dec, strEq_dec, sok0, sok1, sok2, sok3, sok4, sok5, sok6, sok7, sok8, sok9, sok10, sok11, sok12, sok13, sok14, sok15, sok16, sok17, sok18, sok19, sok20, sok21, sok22, sok23, sok24, sok25, sok26, sok27, sok28, sok29, sok30, sok31, sok32, sok33, sok34, sok35, sok36, sok37, sok38, sok39, sok40, sok41, sok42, sok43, sok44, sok45, sok46, sok47, sok48, sok49, sok50, lay, PyData.canLay0, PyData.canLayAll0, PyData.depth, PyData.depthAll, mkDict, dspS, dspI, dspII, putS, ite_self]
end Mine
end
section
open PySem PySem.W
set_option maxRecDepth 100000
set_option linter.unusedSimpArgs false
set_option linter.unusedVariables false
set_option linter.unusedSectionVars false
namespace Mine
variable {P : Params} {n : Nat} {h : List O} {k : Str} {lo : Int} {b : Nat} {f kf c bo bl be fo fd fb : Nat}
theorem set_same {i : Nat} {o : O} (e : h[i]? = some o) : h.set i o = h := by
  apply List.ext_getElem?
  intro j
  rw [List.getElem?_set]
  split
  · rename_i z; subst z; rw [if_pos (List.getElem?_eq_some_iff.mp e).1]; exact e.symm
  · rfl
theorem set_mid {α : Type} {a c : List α} {x y : α} {i : Nat} (e : a.length = i) : (a ++ x :: c).set i y = a ++ y :: c := by
  subst e; simp
theorem keys_at {α : Type} {pre post : List (Int × α)} {x : Int × α} {j : Nat} (e : pre.length = j) : (((pre ++ x :: post).map (·.1)).map PyData.int)[j]? = some (.int x.1) := by
  subst e; simp
/-- the loop over the blocks -/
theorem wc_chain {q : Nat} {B : List (Int × Known)} {Ls0 : List PyData} (K : isKind k lo b) (hB : ∀ p ∈ B, findI p.1 B = some p.2) : ∀ {i : Nat} {m : Known} {Ls Ls' : List PyData} {Bs : List (Int × Known)}, Chain k lo b i m Ls Ls' Bs → ∀ {h : List O} {preL preL' : List PyData} {preB : List (Int × Known)} {x3 x4 x5 x6 x7 x8 : Option V} {b0 F : Nat},
    ConsAt h c bo bl be fo k → BegAt h be B → BlkAt h bl Ls0 → BlkAt h fb (preL' ++ Ls) → h[fd]? = some (bodyO k fb) → OkH h → bl ≠ fb → Ls0 = preL ++ Ls → preL.length = i → preL'.length = i → B = preB ++ Bs → preB.length = i →
    ∃ b1 y3 y4 y5 y6 y7 y8, forS (R (TT P) (q + 200)) h.length (.one 3) wcBody (.vals (((B.map (·.1)).map PyData.int).map .d)) (Ls.length + 1) i ⟨b0, h, [some (.loc bo), some (.loc c), some (.loc fd), x3, x4, x5, x6, x7, x8, none, none, none, none]⟩ =
      some (.next, ⟨b1, h.set fb (.list (preL' ++ Ls')), [some (.loc bo), some (.loc c), some (.loc fd), y3, y4, y5, y6, y7, y8, none, none, none, none]⟩) := by
  intro i m Ls Ls' Bs r
  have step : ∀ {i : Nat} {m m' : Known} {ss ss' : List PyData} {t t' : PyData} {g : Option Int} {Ls : List PyData} {Bs : List (Int × Known)} {h : List O} {preL preL' : List PyData} {preB : List (Int × Known)} {x3 x4 x5 x6 x7 x8 : Option V} {b0 F : Nat},
      SRs k lo b m ss ss' m' → TR m' t t' g → m.length + ss.length ≤ 800 →
      ConsAt h c bo bl be fo k → BegAt h be B → BlkAt h bl Ls0 → BlkAt h fb (preL' ++ .list [.list ss, t] :: Ls) → h[fd]? = some (bodyO k fb) → OkH h → Ls0 = preL ++ .list [.list ss, t] :: Ls → preL.length = i → preL'.length = i → B = preB ++ ((i : Int), m) :: Bs → preB.length = i →
      ∃ b1 y3 y4 y5 y6 y7 y8, forS (R (TT P) (q + 200)) h.length (.one 3) wcBody (.vals (((B.map (·.1)).map PyData.int).map .d)) (F + 1) i ⟨b0, h, [some (.loc bo), some (.loc c), some (.loc fd), x3, x4, x5, x6, x7, x8, none, none, none, none]⟩ =
        forS (R (TT P) (q + 200)) h.length (.one 3) wcBody (.vals (((B.map (·.1)).map PyData.int).map .d)) F (i + 1) ⟨b1, h.set fb (.list (preL' ++ .list [.list ss', t'] :: Ls)), [some (.loc bo), some (.loc c), some (.loc fd), y3, y4, y5, y6, y7, y8, none, none, none, none]⟩ := by
    intro i m m' ss ss' t t' g Ls Bs h preL preL' preB x3 x4 x5 x6 x7 x8 b0 F r1 r2 hl C G D D' hfd hh e0 e1 e2 e3 e4
    have hB' : findI (i : Int) B = some m := hB ((i : Int), m) (by rw [e3]; simp)
    have hL : Ls0[i]? = some (.list [.list ss, t]) := by rw [e0, ← e1]; simp
    have hk : ((B.map (·.1)).map PyData.int)[i]? = some (.int (i : Int)) := by rw [e3]; exact keys_at e4
    have := wc_turn (P := P) (q := q) (b0 := b0) (F := F) (x3 := x3) (x4 := x4) (x5 := x5) (x6 := x6) (x7 := x7) (x8 := x8) K C G D D' hfd hh hB' hL (by rw [← e2]; simp) r1 r2 hl hk
    rw [set_mid e2] at this
    exact this
  induction r with
  | @last i q0 q1 xs xs' r1 hl =>
    intro h preL preL' preB x3 x4 x5 x6 x7 x8 b0 F C G D D' hfd hh hne e0 e1 e2 e3 e4
    obtain ⟨b1, y3, y4, y5, y6, y7, y8, e⟩ := step (F := 1) (x3 := x3) (x4 := x4) (x5 := x5) (x6 := x6) (x7 := x7) (x8 := x8) (b0 := b0) r1 TR.ret hl C G D D' hfd hh e0 e1 e2 e3 e4
    refine ⟨b1, y3, y4, y5, y6, y7, y8, ?_⟩
    rw [List.length_singleton, e]
    have : ((((B.map (·.1)).map PyData.int).map V.d))[i + 1]? = none := by
      rw [e3]; simp; omega
    unfold forS nextS
    simp only [this]
  | @step i q0 q1 xs xs' t t' Ls Ls' Bs r1 r2 hl hl' r3 ih =>
    intro h preL preL' preB x3 x4 x5 x6 x7 x8 b0 F C G D D' hfd hh hne e0 e1 e2 e3 e4
    obtain ⟨b1, y3, y4, y5, y6, y7, y8, e⟩ := step (F := Ls.length + 1) (x3 := x3) (x4 := x4) (x5 := x5) (x6 := x6) (x7 := x7) (x8 := x8) (b0 := b0) r1 r2 hl C G D D' hfd hh e0 e1 e2 e3 e4
    have keep : ∀ {j : Nat} {o : O} (z : O), h[j]? = some o → (∀ l, o ≠ .list l) → (h.set fb z)[j]? = some o := fun {j o} z e ho => by
      rw [List.getElem?_set]
      split
      · rename_i y; subst y; rw [D'.a] at e; cases e; exact absurd rfl (ho _)
      · exact e
    let X : O := .list (preL' ++ .list [.list xs', t'] :: Ls)
    have C2 : ConsAt (h.set fb X) c bo bl be fo k := ⟨keep _ C.a (fun _ z => by cases z), keep _ C.b (fun _ z => by cases z), keep _ C.f (fun _ z => by cases z)⟩
    have G2 : BegAt (h.set fb X) be B := ⟨keep _ G.a (fun _ z => by cases z)⟩
    have D2 : BlkAt (h.set fb X) bl Ls0 := ⟨by rw [List.getElem?_set, if_neg hne.symm]; exact D.a, D.l⟩
    have hfb := (List.getElem?_eq_some_iff.mp D'.a).1
    have D2' : BlkAt (h.set fb X) fb ((preL' ++ [.list [.list xs', t']]) ++ Ls) := ⟨by
      rw [List.getElem?_set]; simp [hfb, X], by have := D'.l; simp at this ⊢; omega⟩
    obtain ⟨b2, z3, z4, z5, z6, z7, z8, e'⟩ := ih (h := h.set fb X) (preL := preL ++ [.list [.list xs, t]]) (preL' := preL' ++ [.list [.list xs', t']]) (preB := preB ++ [((i : Int), q0)]) (x3 := y3) (x4 := y4) (x5 := y5) (x6 := y6) (x7 := y7) (x8 := y8) (b0 := b1) (F := F)
      C2 G2 D2 D2' (keep _ hfd (fun _ z => by cases z)) (hh.set rfl) hne (by rw [e0]; simp) (by simp [e1]) (by simp [e2]) (by rw [e3]; simp) (by simp [e4])
    refine ⟨b2, z3, z4, z5, z6, z7, z8, ?_⟩
    rw [List.length_set, set_set'] at e'
    rw [List.length_cons, e]
    have z : preL' ++ [PyData.list [.list xs', t']] ++ Ls' = preL' ++ PyData.list [.list xs', t'] :: Ls' := by simp
    rw [z] at e'
    exact e'
end Mine
end
section
open PySem PySem.W
set_option maxRecDepth 100000
set_option linter.unusedSimpArgs false
set_option linter.unusedVariables false
set_option linter.unusedSectionVars false
namespace Mine
variable {P : Params} {n : Nat} {h : List O} {k : Str} {lo : Int} {b : Nat} {f kf c bo bl be fo fd fb : Nat}
def asc {α : Type} : Nat → List (Int × α) → Prop
  | _, [] => True
  | i, (k, _) :: r => k = (i : Int) ∧ asc (i + 1) r
theorem asc_ge {α : Type} : ∀ {i : Nat} {l : List (Int × α)}, asc i l → ∀ p ∈ l, (i : Int) ≤ p.1
  | _, [], _, _, h => by cases h
  | i, (k, x) :: r, h, p, hp => by
    obtain ⟨h1, h2⟩ := h
    cases hp with
    | head => rw [h1]; exact Int.le_refl _
    | tail _ hp => have := asc_ge h2 p hp; omega
theorem asc_find {α : Type} : ∀ {i : Nat} {l : List (Int × α)}, asc i l → ∀ p ∈ l, findI p.1 l = some p.2
  | _, [], _, _, h => by cases h
  | i, (k, x) :: r, h, p, hp => by
    obtain ⟨h1, h2⟩ := h
    cases hp with
    | head => unfold findI; rw [intEq_dec, decide_eq_true rfl, if_pos rfl]
    | tail _ hp =>
      have h3 := asc_ge h2 p hp
      unfold findI
      rw [intEq_dec, decide_eq_false (by omega), if_neg (by decide)]
      exact asc_find h2 p hp
theorem asc_sort {α : Type} : ∀ {i : Nat} {l : List (Int × α)}, asc i l → sortI (l.map (·.1)) = l.map (·.1)
  | _, [], _ => rfl
  | i, (k, x) :: r, h => by
    obtain ⟨h1, h2⟩ := h
    rw [List.map_cons]
    unfold sortI
    rw [asc_sort h2]
    cases r with
    | nil => rfl
    | cons y r =>
      have := asc_ge h2 y (.head _)
      rw [List.map_cons]
      unfold insI
      rw [decide_eq_true (by omega), if_pos rfl]
theorem Chain.asc {i : Nat} {m : Known} {Ls Ls' : List PyData} {Bs : List (Int × Known)} (r : Chain k lo b i m Ls Ls' Bs) : Mine.asc i Bs ∧ Bs.length = Ls.length ∧ Ls'.length = Ls.length ∧ 0 < Ls.length := by
  induction r with
  | last => exact ⟨⟨rfl, trivial⟩, rfl, rfl, by simp⟩
  | step _ _ _ _ _ ih => exact ⟨⟨rfl, ih.1⟩, by simp [ih.2.1], by simp [ih.2.2.1], by simp⟩
/-- what with_constants leaves behind -/
def wcT (k : Str) (bo l : Nat) (Bs : List (Int × Known)) (Ls' : List PyData) : List O := [.attrs 396 [("body", .loc bo), ("followed", .loc (l + 1)), ("begins", .loc (l + 2))], .idict folM, .iidict Bs, .list Ls', bodyO k (l + 3)]
theorem c407 {Ls Ls' : List PyData} {Bs : List (Int × Known)} (K : isKind k lo b) (r : Chain k lo b 0 [] Ls Ls' Bs) (hb : h[bo]? = some (bodyO k bl)) (D : BlkAt h bl Ls) (hh : OkH h) (hl : Ls.length ≤ 60) :
    (R (TT P) (n + 240)).call 407 [.loc bo] h = some (.loc (h.length + 4), h ++ wcT k bo h.length Bs Ls') := by
  obtain ⟨ra, rb, rc, rd⟩ := r.asc
  let h1 : List O := h ++ [.attrs 396 [("body", .loc bo), ("followed", .loc (h.length + 1)), ("begins", .loc (h.length + 2))], .idict folM, .iidict [(0, [])]]
  let h2 : List O := h ++ [.attrs 396 [("body", .loc bo), ("followed", .loc (h.length + 1)), ("begins", .loc (h.length + 2))], .idict folM, .iidict Bs]
  let h3 : List O := h ++ [.attrs 396 [("body", .loc bo), ("followed", .loc (h.length + 1)), ("begins", .loc (h.length + 2))], .idict folM, .iidict Bs, .list Ls, bodyO k (h.length + 3)]
  let h4 : List O := h ++ [.attrs 396 [("body", .loc bo), ("followed", .loc (h.length + 1)), ("begins", .loc (h.length + 2))], .idict folM, .iidict Bs, .list Ls', bodyO k (h.length + 3)]
  have hbo := (List.getElem?_eq_some_iff.mp hb).1
  have hbl := (List.getElem?_eq_some_iff.mp D.a).1
  have at0 : ∀ (x : O) (t : List O), (h ++ x :: t)[h.length]? = some x := fun x t => by simp
  have at1 : ∀ (x y : O) (t : List O), (h ++ x :: y :: t)[h.length + 1]? = some y := fun x y t => by
    rw [List.getElem?_append_right (Nat.le_add_right _ _)]; simp
  have at2 : ∀ (x y z : O) (t : List O), (h ++ x :: y :: z :: t)[h.length + 2]? = some z := fun x y z t => by
    rw [List.getElem?_append_right (Nat.le_add_right _ _)]; simp
  have at3 : ∀ (x y z u : O) (t : List O), (h ++ x :: y :: z :: u :: t)[h.length + 3]? = some u := fun x y z u t => by
    rw [List.getElem?_append_right (Nat.le_add_right _ _)]; simp
  have at4 : ∀ (x y z u v : O) (t : List O), (h ++ x :: y :: z :: u :: v :: t)[h.length + 4]? = some v := fun x y z u v t => by
    rw [List.getElem?_append_right (Nat.le_add_right _ _)]; simp
  have e1 := fun n => c298 (P := P) (n := n) hb D r.blks hh
  have C1 : ConsAt h1 h.length bo bl (h.length + 2) (h.length + 1) k := ⟨at0 _ _, get_app hb, at1 _ _ _⟩
  have G1 : BegAt h1 (h.length + 2) [(0, [])] := ⟨at2 _ _ _ _⟩
  have okt : ∀ (B : List (Int × Known)), OkH (h ++ [.attrs 396 [("body", .loc bo), ("followed", .loc (h.length + 1)), ("begins", .loc (h.length + 2))], .idict folM, .iidict B]) := fun B => hh.app (by
    simp [undH, O.und, undA, V.und]; omega)
  have o1 : OkH h1 := okt _
  have e2 := fun n => c369 (P := P) (n := n) K r C1 G1 (D.app _) o1 hl
  have s12 : h1.set (h.length + 2) (.iidict Bs) = h2 := by
    show (h ++ _).set (h.length + 2) _ = _
    rw [List.set_append_right _ _ (Nat.le_add_right _ _)]; simp [h2]
  rw [s12] at e2
  have hb2 : h2[bo]? = some (bodyO k bl) := get_app hb
  have D2 : BlkAt h2 bl Ls := D.app _
  have e3 := fun n => c207 (P := P) (n := n) hb2 D2 r.blks
  have l2 : h2.length = h.length + 3 := by simp [h2]
  have s23 : h2 ++ [O.list Ls, bodyO k h2.length] = h3 := by rw [l2]; simp [h2, h3]
  rw [s23, l2] at e3
  simp only [Nat.add_assoc, Nat.reduceAdd] at e3
  have C3 : ConsAt h3 h.length bo bl (h.length + 2) (h.length + 1) k := ⟨at0 _ _, get_app hb, at1 _ _ _⟩
  have G3 : BegAt h3 (h.length + 2) Bs := ⟨at2 _ _ _ _⟩
  have D3 : BlkAt h3 bl Ls := D.app _
  have D3' : BlkAt h3 (h.length + 3) ([] ++ Ls) := ⟨at3 _ _ _ _ _, D.l⟩
  have f3 : h3[h.length + 4]? = some (bodyO k (h.length + 3)) := at4 _ _ _ _ _ _
  have o3 : OkH h3 := hh.app (by
    simp [undH, O.und, undA, V.und]; omega)
  obtain ⟨b1, y3, y4, y5, y6, y7, y8, e4⟩ := wc_chain (P := P) (q := n + 38) (B := Bs) K (asc_find ra) r (preL := []) (preL' := []) (preB := []) (x3 := none) (x4 := none) (x5 := none) (x6 := none) (x7 := none) (x8 := none) (b0 := h.length) (F := 0) C3 G3 D3 D3' f3 o3 (by omega) rfl rfl rfl rfl rfl
  have s34 : h3.set (h.length + 3) (.list ([] ++ Ls')) = h4 := by
    show (h ++ _).set (h.length + 3) _ = _
    rw [List.set_append_right _ _ (Nat.le_add_right _ _)]; simp [h4]
  have l3 : h3.length = h.length + 5 := by simp [h3]
  rw [s34, l3] at e4
  have srt := asc_sort ra
  have rb' : Bs.length < 64 := by omega
  have rb0 : 0 < Bs.length := by omega
  have k3 := cls396 (P := P)
  rw [R_call _ _ _ _ _ (at_407 P)]
  have c1 : h1[h.length]? = _ := C1.a
  have c3 : h3[h.length]? = _ := C3.a
  have g3 := G3.a
  have u : V.und h.length (.loc (h.length + 4)) = false := by
    show Nat.blt (h.length + 4) h.length = false
    cases q : Nat.blt (h.length + 4) h.length
    · rfl
    · exact absurd (Nat.blt_eq.mp q) (by omega)
  unfold wcBody wcIn at e4
  have lk1 : Ls.length < 64 := by omega
  have lk2 : Ls.length ≤ 1000000 := by omega
  have lk3 : Ls ≠ [] := fun z => by rw [z] at rd; exact absurd rd (by decide)
  simp only [h1, h2, h3, h4] at e2 e3 e4 c1 c3 g3
  simp (config := { decide := true }) [-List.map_map, fn_407, e1, e2, e3, e4, k3, c1, c3, g3, srt, rb, rd, lk1, lk2, lk3, u, wcT, run, bindArgs, pick, exs, R_ex, R_ev, stepEx, stepEv, evs, evp, bopV, ifsAll, tst, tstN, tstA, srcOf, nextS, bindT, bindU, parts, initR, back, subV, attrV, findS, atL, idx0, idx1, idx2, idx3, idx4, idxm, short, lim, methB, mkind, sameKind, V.und, undL, truthy, isNone, bB, bI, binV, rd, cmpV, eqV, inV, natOf2, natOf3, natOf5, slcV, optNat, mkTup, allD, mkList, setS, setA, small, callB, anyEq, deq, deqs, intEq_dec, strEq_dec, sok0, sok1, sok2, sok3, sok4, sok5, sok6, sok7, sok8, sok9, sok10, sok11, sok12, sok13, sok14, sok15, sok16, sok17, sok18, sok19, sok20, sok21, sok22, sok23, sok24, sok25, sok26, sok27, sok28, sok29, sok30, sok31, sok32, sok33, sok34, sok35, sok36, sok37, sok38, sok39, sok40, sok41, sok42, sok43, sok44, sok45, sok46, sok47, sok48, sok49, sok50, lay, PyData.canLay0, PyData.canLayAll0, PyData.depth, PyData.depthAll, mkDict, dspS, dspI, dspII, putS, ite_self]
  intro z
  omega
end Mine
end
section
open PySem PySem.W
set_option maxRecDepth 100000
set_option linter.unusedSimpArgs false
set_option linter.unusedVariables false
set_option linter.unusedSectionVars false
namespace Mine
variable {P : Params} {n : Nat} {h : List O} {k : Str} {lo : Int} {b : Nat} {f kf c bo bl be fo fd fb : Nat}
mutual
theorem deq_refl : ∀ x : PyData, x.canLay0 = true → deq x x = true
  | .none, _ => rfl
  | .bool b, _ => by unfold deq; simp
  | .int i, _ => by unfold deq; rw [intEq_dec]; simp
  | .str s, _ => by unfold deq; rw [strEq_dec]; simp
  | .list xs, h => by unfold deq; exact deqs_refl xs (by simpa [PyData.canLay0] using h)
  | .tuple xs, h => by unfold deq; exact deqs_refl xs (by simpa [PyData.canLay0] using h)
  | .dict _, h => by simp [PyData.canLay0] at h
theorem deqs_refl : ∀ xs : List PyData, PyData.canLayAll0 xs = true → deqs xs xs = true
  | [], _ => rfl
  | x :: xs, h => by
    have h' : x.canLay0 = true ∧ PyData.canLayAll0 xs = true := by simpa [PyData.canLayAll0] using h
    unfold deqs
    rw [deq_refl x h'.1, deqs_refl xs h'.2]; rfl
end
/-- it can be written down, and is so deep at most -/
def LayD (n : Nat) (x : PyData) : Prop := x.canLay0 = true ∧ x.depth ≤ n
theorem layAll {n : Nat} : ∀ {xs : List PyData}, (∀ x ∈ xs, LayD n x) → PyData.canLayAll0 xs = true ∧ PyData.depthAll xs ≤ n
  | [], _ => ⟨rfl, Nat.zero_le _⟩
  | x :: xs, h => by
    obtain ⟨h1, h2⟩ := h x (.head _)
    obtain ⟨h3, h4⟩ := layAll (xs := xs) fun y hy => h y (.tail _ hy)
    constructor
    · unfold PyData.canLayAll0; rw [h1, h3]; rfl
    · unfold PyData.depthAll; omega
theorem LayD.list {n : Nat} {xs : List PyData} (h : ∀ x ∈ xs, LayD n x) : LayD (n + 1) (.list xs) := by
  obtain ⟨h1, h2⟩ := layAll h
  exact ⟨by simpa [PyData.canLay0] using h1, by simp [PyData.depth]; omega⟩
theorem LayD.tuple {n : Nat} {xs : List PyData} (h : ∀ x ∈ xs, LayD n x) : LayD (n + 1) (.tuple xs) := by
  obtain ⟨h1, h2⟩ := layAll h
  exact ⟨by simpa [PyData.canLay0] using h1, by simp [PyData.depth]; omega⟩
theorem LayD.mono {n n' : Nat} {x : PyData} (h : LayD n x) (e : n ≤ n') : LayD n' x := ⟨h.1, Nat.le_trans h.2 e⟩
theorem LayD.lay {n : Nat} {x : PyData} (h : LayD n x) (e : n ≤ 60) : Mine.lay x = true := by
  unfold Mine.lay; rw [h.1, decide_eq_true (Nat.le_trans h.2 e)]; rfl
theorem LayD.str {x : Str} (h : PyData.strOk x = true) : LayD 0 (.str x) := ⟨by simpa [PyData.canLay0] using h, by simp [PyData.depth]⟩
theorem LayD.cI (K : isKind k lo b) (v : Int) : LayD 4 (cI k v) := by
  have := kind_lay K
  constructor
  · simp [PyData.canLay0, PyData.canLayAll0, this, sok7, sok22]
  · simp [PyData.depth, PyData.depthAll]
theorem LayD.cB (v : Bool) : LayD 4 (cB v) := by
  constructor
  · simp [PyData.canLay0, PyData.canLayAll0, sok7, sok23]
  · simp [PyData.depth, PyData.depthAll]
theorem op_lay {op : Str} (h : isOp op) : PyData.strOk op = true := by
  rcases h with rfl | rfl | rfl | rfl | rfl | rfl | rfl <;> decide +kernel
theorem LayD.sr {m m' : Known} {s s' : PyData} (K : isKind k lo b) (r : SR k lo b m s s' m') : LayD 12 s' := by
  have hk := kind_lay K
  cases r with
  | con v => exact ⟨by simp [PyData.canLay0, PyData.canLayAll0, hk, sok7, sok10, sok11, sok22], by simp [PyData.depth, PyData.depthAll]⟩
  | eq0 o => exact ⟨by simp [PyData.canLay0, PyData.canLayAll0, hk, sok7, sok10, sok11, sok23], by simp [PyData.depth, PyData.depthAll]⟩
  | chk op o v _ h1 h2 h3 h4 =>
    have ho := op_lay h2
    exact ⟨by simp [PyData.canLay0, PyData.canLayAll0, hk, ho, sok7, sok10, sok13, sok22], by simp [PyData.depth, PyData.depthAll]⟩
  | chkz op v _ h1 h2 =>
    have ho := op_lay (op := op) (by rcases h2 with rfl | rfl; exact .inr (.inr (.inr (.inl rfl))); exact .inr (.inr (.inr (.inr (.inl rfl)))))
    exact ⟨by simp [PyData.canLay0, PyData.canLayAll0, hk, ho, sok7, sok10, sok13, sok22], by simp [PyData.depth, PyData.depthAll]⟩
  | mov v w => exact ⟨by simp [PyData.canLay0, PyData.canLayAll0, hk, sok7, sok10, sok11, sok22], by simp [PyData.depth, PyData.depthAll]⟩
  | prt v => exact ⟨by simp [PyData.canLay0, PyData.canLayAll0, hk, sok7, sok16, sok22], by simp [PyData.depth, PyData.depthAll]⟩
  | cast v => exact ⟨by simp [PyData.canLay0, PyData.canLayAll0, hk, sok7, sok10, sok11, sok22, sok38], by simp [PyData.depth, PyData.depthAll]⟩
  | un op v => exact ⟨by simp [PyData.canLay0, PyData.canLayAll0, hk, sok7, sok10, sok11, sok22], by simp [PyData.depth, PyData.depthAll]⟩
  | cmp op v => exact ⟨by simp [PyData.canLay0, PyData.canLayAll0, hk, sok7, sok10, sok11, sok23], by simp [PyData.depth, PyData.depthAll]⟩
theorem LayD.srs {m m' : Known} {ss ss' : List PyData} (K : isKind k lo b) (r : SRs k lo b m ss ss' m') : ∀ x ∈ ss', LayD 12 x := by
  induction r with
  | nil => intro x hx; cases hx
  | cons r1 r2 ih =>
    intro x hx
    cases hx with
    | head => exact LayD.sr K r1
    | tail _ hx => exact ih x hx
theorem SRs.len {m m' : Known} {ss ss' : List PyData} (r : SRs k lo b m ss ss' m') : ss'.length = ss.length ∧ m'.length ≤ m.length + ss.length := by
  induction r with
  | nil => exact ⟨rfl, Nat.le_refl _⟩
  | cons r1 r2 ih => have := r1.len; simp; omega
theorem SRs.app {m m' m'' : Known} {ss ss' ts ts' : List PyData} (r : SRs k lo b m ss ss' m') (r' : SRs k lo b m' ts ts' m'') : SRs k lo b m (ss ++ ts) (ss' ++ ts') m'' := by
  induction r with
  | nil => exact r'
  | cons r1 r2 ih => exact .cons r1 (ih r')
theorem LayD.blk {m m' : Known} {ss ss' : List PyData} {t' : PyData} (K : isKind k lo b) (r : SRs k lo b m ss ss' m') (ht : LayD 12 t') : LayD 14 (.list [.list ss', t']) :=
  LayD.list (n := 13) fun x hx => by
    simp only [List.mem_cons, List.not_mem_nil, or_false] at hx
    rcases hx with rfl | rfl
    · exact LayD.list (LayD.srs K r)
    · exact ht.mono (by decide)
theorem LayD.tRet : LayD 12 tRet := ⟨by simp [PyData.canLay0, PyData.canLayAll0, sok20], by simp [PyData.depth, PyData.depthAll]⟩
theorem LayD.tGo (g : Int) : LayD 12 (tGo g) := ⟨by simp [PyData.canLay0, PyData.canLayAll0, sok17], by simp [PyData.depth, PyData.depthAll]⟩
theorem LayD.tAsB {w : Str} {z : Bool} {g : Int} (hw : PyData.strOk w = true) : LayD 12 (tAs (Mine.cB z) w g) := ⟨by simp [PyData.canLay0, PyData.canLayAll0, hw, sok7, sok18, sok23], by simp [PyData.depth, PyData.depthAll]⟩
theorem LayD.tAs2 {w : Str} {g : Int} (hw : PyData.strOk w = true) : LayD 12 (tAs opC2 w g) := ⟨by simp [PyData.canLay0, PyData.canLayAll0, hw, sok8, sok18, sok21], by simp [PyData.depth, PyData.depthAll]⟩
/-! the keys of what is known -/
def Keys (m : Known) : Prop := (m.map (·.1)).Nodup
theorem find_put {i j : Int} {v : PyData} : ∀ {m : Known}, findI i (putI j v m) = if i = j then some v else findI i m
  | [] => by
    unfold putI findI
    rw [intEq_dec]
    by_cases e : i = j <;> simp [e, findI]
  | (a, x) :: m => by
    unfold putI
    rw [intEq_dec]
    by_cases e : j = a
    · subst e
      rw [decide_eq_true rfl, if_pos rfl]
      unfold findI
      rw [intEq_dec]
      by_cases e2 : i = j <;> simp [e2]
    · rw [decide_eq_false e, if_neg (by decide)]
      unfold findI
      rw [intEq_dec, find_put]
      by_cases e2 : i = a
      · subst e2; simp [Ne.symm e]
      · simp [e2]
theorem find_none {i : Int} : ∀ {m : Known}, i ∉ m.map (·.1) → findI i m = none
  | [], _ => rfl
  | (a, x) :: m, h => by
    rw [List.map_cons, List.mem_cons] at h
    unfold findI
    rw [intEq_dec, decide_eq_false (fun e => h (.inl e)), if_neg (by decide)]
    exact find_none fun e => h (.inr e)
theorem find_drop {i j : Int} : ∀ {m : Known}, Keys m → findI i (dropI j m) = if i = j then none else findI i m
  | [], _ => by unfold dropI findI; split <;> rfl
  | (a, x) :: m, h => by
    have h' : a ∉ m.map (·.1) ∧ (m.map (·.1)).Nodup := by simpa [Keys] using h
    unfold dropI
    rw [intEq_dec]
    by_cases e : j = a
    · subst e
      rw [decide_eq_true rfl, if_pos rfl]
      by_cases e2 : i = j
      · subst e2; rw [if_pos rfl]; exact find_none h'.1
      · rw [if_neg e2]; conv => rhs; unfold findI
        rw [intEq_dec, decide_eq_false e2, if_neg (by decide)]
    · rw [decide_eq_false e, if_neg (by decide)]
      unfold findI
      rw [intEq_dec, find_drop h'.2]
      by_cases e2 : i = a
      · subst e2; simp [Ne.symm e]
      · simp [e2]
theorem drop_sub {j : Int} : ∀ {m : Known}, ((dropI j m).map (·.1)).Sublist (m.map (·.1))
  | [] => .slnil
  | (a, x) :: m => by
    unfold dropI
    split
    · exact .cons _ (List.Sublist.refl _)
    · exact .cons_cons _ drop_sub
theorem Keys.drop {j : Int} {m : Known} (h : Keys m) : Keys (dropI j m) := h.sublist drop_sub
theorem put_mem {i j : Int} {v : PyData} : ∀ {m : Known}, i ∈ (putI j v m).map (·.1) → i = j ∨ i ∈ m.map (·.1)
  | [], h => by simpa [putI] using h
  | (a, x) :: m, h => by
    unfold putI at h
    split at h
    · exact .inr h
    · rw [List.map_cons, List.mem_cons] at h ⊢
      rcases h with h | h
      · exact .inr (.inl h)
      · rcases put_mem h with h | h
        · exact .inl h
        · exact .inr (.inr h)
theorem Keys.put {j : Int} {v : PyData} : ∀ {m : Known}, Keys m → Keys (putI j v m)
  | [], _ => by unfold putI Keys; simp
  | (a, x) :: m, h => by
    have h' : a ∉ m.map (·.1) ∧ (m.map (·.1)).Nodup := by simpa [Keys] using h
    unfold putI
    rw [intEq_dec]
    by_cases e : j = a
    · rw [decide_eq_true e, if_pos rfl]; exact h
    · rw [decide_eq_false e, if_neg (by decide)]
      unfold Keys
      rw [List.map_cons, List.nodup_cons]
      exact ⟨fun z => by rcases put_mem z with z | z; exact e z.symm; exact h'.1 z, Keys.put h'.2⟩
theorem cmp_rel {op : Str} {v : Int} (h : isCmp op) : cmpS op v = relS op v 3 := by
  rcases h with rfl | rfl | rfl | rfl | rfl <;> simp (config := { decide := true }) [cmpS, relS]
end Mine
end
section
open PySem PySem.W
set_option maxRecDepth 100000
set_option linter.unusedSimpArgs false
set_option linter.unusedVariables false
set_option linter.unusedSectionVars false
namespace Mine
variable {P : Params} {n : Nat} {h : List O} {k : Str} {lo : Int} {b : Nat} {f kf c bo bl be fo fd fb : Nat}
def IsBlk (x : PyData) : Prop := ∃ xs t, x = .list [.list xs, t] ∧ xs.length ≤ 800
theorem Chain.isBlk {i : Nat} {m : Known} {Ls Ls' : List PyData} {Bs : List (Int × Known)} (r : Chain k lo b i m Ls Ls' Bs) : ∀ x ∈ Ls', IsBlk x := by
  induction r with
  | last r1 hl =>
    intro x hx
    simp only [List.mem_cons, List.not_mem_nil, or_false] at hx
    have := r1.len
    exact ⟨_, _, hx, by omega⟩
  | step r1 r2 hl hl' _ ih =>
    intro x hx
    cases hx with
    | head => have := r1.len; exact ⟨_, _, rfl, by omega⟩
    | tail _ hx => exact ih x hx
theorem told_comp {all : List PyData} {w : Nat} : ∀ {Ls : List PyData}, (∀ x ∈ Ls, IsBlk x) → ∀ {pre : List PyData} {x0 x1 x2 x3 : Option V}, all = pre ++ Ls →
    compS (R (TT P) (w + 20)) (.lst false [(.callB false .list [(.var 1)]), (.var 2)]) (.many [1, 2]) [] (.vals (all.map .d)) (Ls.length + 1) pre.length [x0, x1, x2, x3] h = some (Ls.map .d, h) := by
  intro Ls
  induction Ls with
  | nil =>
    intro _ pre x0 x1 x2 x3 ha
    have : (all.map V.d)[pre.length]? = none := by rw [ha]; simp
    unfold compS nextS
    simp only [this]
    rfl
  | cons y Ls ih =>
    intro hy pre x0 x1 x2 x3 ha
    obtain ⟨xs, t, rfl, hl⟩ := hy y (.head _)
    have e2 := ih (fun x hx => hy x (.tail _ hx)) (pre := pre ++ [.list [.list xs, t]]) (x0 := x0) (x1 := some (.d (.list xs))) (x2 := some (.d t)) (x3 := x3) (by rw [ha]; simp)
    have nx : (all.map V.d)[pre.length]? = some (.d (.list [.list xs, t])) := by rw [ha]; simp
    have hl' : xs.length ≤ 1000000 := by omega
    have e2' : compS (R (TT P) (w + 20)) (.lst false [(.callB false .list [(.var 1)]), (.var 2)]) (.many [1, 2]) [] (.vals (all.map .d)) (Ls.length + 1) (pre.length + 1) [x0, some (.d (.list xs)), some (.d t), x3] h = some (Ls.map .d, h) := by
      have := e2; simpa using this
    conv => lhs; unfold compS
    simp (config := { decide := true }) [nx, hl', e2', run, bindArgs, pick, exs, R_ex, R_ev, stepEx, stepEv, evs, evp, bopV, ifsAll, tst, tstN, tstA, srcOf, nextS, bindT, bindU, parts, initR, back, subV, attrV, findS, atL, idx0, idx1, idx2, idx3, idx4, idxm, short, lim, methB, mkind, sameKind, V.und, undL, truthy, isNone, bB, bI, binV, rd, cmpV, eqV, inV, natOf2, natOf3, natOf5, slcV, optNat, mkTup, allD, mkList, setS, setA, small, callB, anyEq, deq, deqs, intEq_dec, strEq_dec, sok0, sok1, sok2, sok3, sok4, sok5, sok6, sok7, sok8, sok9, sok10, sok11, sok12, sok13, sok14, sok15, sok16, sok17, sok18, sok19, sok20, sok21, sok22, sok23, sok24, sok25, sok26, sok27, sok28, sok29, sok30, sok31, sok32, sok33, sok34, sok35, sok36, sok37, sok38, sok39, sok40, sok41, sok42, sok43, sok44, sok45, sok46, sok47, sok48, sok49, sok50, lay, PyData.canLay0, PyData.canLayAll0, PyData.depth, PyData.depthAll, mkDict, dspS, dspI, dspII, putS, ite_self]
theorem allD_map (l : List PyData) : allD (l.map .d) = some l := by
  induction l with
  | nil => rfl
  | cons x l ih => rw [List.map_cons]; unfold allD; rw [ih]
theorem natOf_nat (n : Nat) : natOf (.d (.int (n : Int))) = if Nat.ble n lim then some n else none := rfl
section
variable {Bl Du Ls' rows : List PyData} {Bs : List (Int × Known)} (K : isKind k lo b) (r : Chain k lo b 0 [] (Bl ++ [.list [.list rows, tRet]]) Ls' Bs) (hb : h[bo]? = some (bodyO k bl)) (hbl : h[bl]? = some (.list Bl)) (hh : OkH h) (hl : Bl.length ≤ 50) (hr : rows.length ≤ 700)
  (hd : Ls'.take Du.length = Du) (hy : ∀ x ∈ Ls', LayD 14 x)
include K r hb hbl hh hl hr hd hy
theorem c482a : (R (TT P) (n + 260)).call 482 [.loc bo, .d (.list Du), .d .none, .d (.list rows)] h = some (.d (.bool true), h.set bl (.list (Bl ++ [.list [.list rows, tRet]]))) := by
  have hbll := (List.getElem?_eq_some_iff.mp hbl).1
  let h' := h.set bl (.list (Bl ++ [.list [.list rows, tRet]]))
  have hb' : h'[bo]? = some (bodyO k bl) := by
    show (h.set bl _)[bo]? = _
    rw [List.getElem?_set]
    split
    · rename_i z; subst z; rw [hbl] at hb; cases hb
    · exact hb
  have D' : BlkAt h' bl (Bl ++ [.list [.list rows, tRet]]) := ⟨by show (h.set bl _)[bl]? = _; rw [List.getElem?_set]; simp [hbll], by simp; omega⟩
  have o' : OkH h' := hh.set rfl
  have lx : h'.length = h.length := List.length_set
  have e1 := fun n => c407 (P := P) (n := n) K r hb' D' o' (by simp; omega)
  rw [lx] at e1
  let t := wcT k bo h.length Bs Ls'
  have e1a : ∀ n, (R (TT P) (n + 240)).call 407 [.loc bo] h' = some (.loc (h.length + 4), h' ++ t) := e1
  have e2 : (h' ++ t)[h.length + 4]? = some (bodyO k (h.length + 3)) := by
    rw [List.getElem?_append_right (by rw [lx]; omega), lx]; simp [t, wcT]
  have e3 : (h' ++ t)[h.length + 3]? = some (.list Ls') := by
    rw [List.getElem?_append_right (by rw [lx]; omega), lx]; simp [t, wcT]
  have hlen := r.asc.2.2.1
  simp only [List.length_append, List.length_singleton] at hlen
  have hdl : Du.length ≤ Ls'.length := by
    have := congrArg List.length hd
    rw [List.length_take] at this; omega
  have hblk : ∀ x ∈ Du, IsBlk x := fun x hx => r.isBlk x (List.mem_of_mem_take (hd ▸ hx))
  have e4 := told_comp (P := P) (all := Du) (h := h' ++ t) (w := n + 236) hblk (pre := []) (x0 := none) (x1 := none) (x2 := none) (x3 := none) rfl
  simp only [List.length_nil, Nat.add_assoc, Nat.reduceAdd] at e4
  have hly := layAll (n := 14) (xs := Du) fun x hx => hy x (List.mem_of_mem_take (hd ▸ hx))
  have hl1 := hly.1
  have hl2 : PyData.depthAll Du ≤ 59 := Nat.le_trans hly.2 (by decide)
  have hl3 := deqs_refl _ hl1
  have u : undH h.length h.length (h' ++ t) = true := by
    have := undH_app (a := h.length) (k := h.length) (h := h') (t := t) (by rw [lx]; exact Nat.le_refl _)
    rw [this]; exact undH_set rfl hh
  have tk : List.take h.length (h' ++ t) = h' := List.take_left' lx
  rw [R_call _ _ _ _ _ (at_482 P)]
  have q1 : Du.length ≤ 1000000 := by omega
  have q2 : Ls'.length ≤ 1000000 := by omega
  have q3 : Bl.length ≤ 1000000 := by omega
  have q4 : rows.length ≤ 1000000 := by omega
  have e5 : h.set bl (.list (Bl ++ [.list [.list rows, tRet]])) = h' := rfl
  simp (config := { decide := true }) [fn_482, hb, hbl, hb', e5, e1a, e2, e3, e4, hd, hl1, hl2, hl3, q1, q2, q3, q4, natOf_nat, allD_map, u, tk, run, bindArgs, pick, exs, R_ex, R_ev, stepEx, stepEv, evs, evp, bopV, ifsAll, tst, tstN, tstA, srcOf, nextS, bindT, bindU, parts, initR, back, subV, attrV, findS, atL, idx0, idx1, idx2, idx3, idx4, idxm, short, lim, methB, mkind, sameKind, V.und, undL, truthy, isNone, bB, bI, binV, rd, cmpV, eqV, inV, natOf2, natOf3, natOf5, slcV, optNat, mkTup, allD, mkList, setS, setA, small, callB, anyEq, deq, deqs, intEq_dec, strEq_dec, sok0, sok1, sok2, sok3, sok4, sok5, sok6, sok7, sok8, sok9, sok10, sok11, sok12, sok13, sok14, sok15, sok16, sok17, sok18, sok19, sok20, sok21, sok22, sok23, sok24, sok25, sok26, sok27, sok28, sok29, sok30, sok31, sok32, sok33, sok34, sok35, sok36, sok37, sok38, sok39, sok40, sok41, sok42, sok43, sok44, sok45, sok46, sok47, sok48, sok49, sok50, lay, PyData.canLay0, PyData.canLayAll0, PyData.depth, PyData.depthAll, mkDict, dspS, dspI, dspII, putS, ite_self]
theorem c482b {v : Int} (hrow : rows = []) (hL : Ls' = Du ++ [.list [.list [], tRet]]) : (R (TT P) (n + 260)).call 482 [.loc bo, .d (.list Du), .d (.int v)] h = some (.d (.bool true), h.set bl (.list (Bl ++ [.list [.list rows, tRet]]))) := by
  have hbll := (List.getElem?_eq_some_iff.mp hbl).1
  let h' := h.set bl (.list (Bl ++ [.list [.list rows, tRet]]))
  have hb' : h'[bo]? = some (bodyO k bl) := by
    show (h.set bl _)[bo]? = _
    rw [List.getElem?_set]
    split
    · rename_i z; subst z; rw [hbl] at hb; cases hb
    · exact hb
  have D' : BlkAt h' bl (Bl ++ [.list [.list rows, tRet]]) := ⟨by show (h.set bl _)[bl]? = _; rw [List.getElem?_set]; simp [hbll], by simp; omega⟩
  have o' : OkH h' := hh.set rfl
  have lx : h'.length = h.length := List.length_set
  have e1 := fun n => c407 (P := P) (n := n) K r hb' D' o' (by simp; omega)
  rw [lx] at e1
  let t := wcT k bo h.length Bs Ls'
  have e1a : ∀ n, (R (TT P) (n + 240)).call 407 [.loc bo] h' = some (.loc (h.length + 4), h' ++ t) := e1
  have e2 : (h' ++ t)[h.length + 4]? = some (bodyO k (h.length + 3)) := by
    rw [List.getElem?_append_right (by rw [lx]; omega), lx]; simp [t, wcT]
  have e3 : (h' ++ t)[h.length + 3]? = some (.list Ls') := by
    rw [List.getElem?_append_right (by rw [lx]; omega), lx]; simp [t, wcT]
  have hlen := r.asc.2.2.1
  simp only [List.length_append, List.length_singleton] at hlen
  have hdl : Du.length ≤ Ls'.length := by
    have := congrArg List.length hd
    rw [List.length_take] at this; omega
  have hblk : ∀ x ∈ Du, IsBlk x := fun x hx => r.isBlk x (List.mem_of_mem_take (hd ▸ hx))
  have e4 := told_comp (P := P) (all := Du) (h := h' ++ t) (w := n + 236) hblk (pre := []) (x0 := none) (x1 := none) (x2 := none) (x3 := none) rfl
  simp only [List.length_nil, Nat.add_assoc, Nat.reduceAdd] at e4
  have hly := layAll (n := 14) (xs := Du) fun x hx => hy x (List.mem_of_mem_take (hd ▸ hx))
  have hl1 := hly.1
  have hl2 : PyData.depthAll Du ≤ 59 := Nat.le_trans hly.2 (by decide)
  have hl3 := deqs_refl _ hl1
  have u : undH h.length h.length (h' ++ t) = true := by
    have := undH_app (a := h.length) (k := h.length) (h := h') (t := t) (by rw [lx]; exact Nat.le_refl _)
    rw [this]; exact undH_set rfl hh
  have tk : List.take h.length (h' ++ t) = h' := List.take_left' lx
  have hdn : Du.length = Bl.length := by rw [hL] at hlen; simp at hlen; exact hlen
  have gL : Bl.length < Ls'.length := by omega
  have gL' : Ls'[Bl.length] = .list [.list [], tRet] := by
    simp only [hL, ← hdn]; simp
  subst hrow
  rw [R_call _ _ _ _ _ (at_482 P)]
  have q1 : Du.length ≤ 1000000 := by omega
  have q2 : Ls'.length ≤ 1000000 := by omega
  have q3 : Bl.length ≤ 1000000 := by omega
  have e5 : h.set bl (.list (Bl ++ [.list [.list [], tRet]])) = h' := rfl
  simp (config := { decide := true }) [fn_482, hb, hbl, hb', e5, e1a, e2, e3, e4, hd, hl1, hl2, hl3, q1, q2, q3, gL, gL', idx_nat, natOf_nat, allD_map, u, tk, run, bindArgs, pick, exs, R_ex, R_ev, stepEx, stepEv, evs, evp, bopV, ifsAll, tst, tstN, tstA, srcOf, nextS, bindT, bindU, parts, initR, back, subV, attrV, findS, atL, idx0, idx1, idx2, idx3, idx4, idxm, short, lim, methB, mkind, sameKind, V.und, undL, truthy, isNone, bB, bI, binV, rd, cmpV, eqV, inV, natOf2, natOf3, natOf5, slcV, optNat, mkTup, allD, mkList, setS, setA, small, callB, anyEq, deq, deqs, intEq_dec, strEq_dec, sok0, sok1, sok2, sok3, sok4, sok5, sok6, sok7, sok8, sok9, sok10, sok11, sok12, sok13, sok14, sok15, sok16, sok17, sok18, sok19, sok20, sok21, sok22, sok23, sok24, sok25, sok26, sok27, sok28, sok29, sok30, sok31, sok32, sok33, sok34, sok35, sok36, sok37, sok38, sok39, sok40, sok41, sok42, sok43, sok44, sok45, sok46, sok47, sok48, sok49, sok50, lay, PyData.canLay0, PyData.canLayAll0, PyData.depth, PyData.depthAll, mkDict, dspS, dspI, dspII, putS, ite_self]
end
end Mine
end
section
open PySem PySem.W
set_option maxRecDepth 100000
set_option linter.unusedSimpArgs false
set_option linter.unusedVariables false
set_option linter.unusedSectionVars false
namespace Mine
variable {P : Params} {n : Nat} {h : List O} {k : Str} {lo : Int} {b : Nat} {s bo bl du : Nat} {Bl Du : List PyData}
theorem blt_self (n : Nat) : Nat.blt n n = false := by
  cases q : Nat.blt n n
  · rfl
  · exact absurd (Nat.blt_eq.mp q) (Nat.lt_irrefl _)
theorem c147b : (R (TT P) (n + 30)).call 147 [.loc h.length, .d (.str "f"), .d (.int 0), .d (.list (localsL k))] (h ++ [.attrs 193 []]) = some (.d .none, h ++ [bodyO k (h.length + 1), .list []]) := by
  rw [R_call _ _ _ _ _ (at_147 P)]
  have g0 : ∀ (a : O) (t : List O), (h ++ a :: t)[h.length]? = some a := fun a t => by simp
  have s0 : ∀ (a z : O) (t : List O), (h ++ a :: t).set h.length z = h ++ z :: t := fun a z t => by simp
  have u : undH (h.length + 1) (h.length + 1) (h ++ [bodyO k (h.length + 1), .list []]) = false := by
    rw [undH_split]
    have : undH (h.length + 1) 1 [bodyO k (h.length + 1), .list []] = false := by
      simp [undH, O.und, undA, V.und, blt_self]
    rw [this, Bool.and_false]
  simp (config := { decide := true }) [fn_147, g0, s0, u, run, bindArgs, pick, exs, R_ex, R_ev, stepEx, stepEv, evs, evp, bopV, ifsAll, tst, tstN, tstA, srcOf, nextS, bindT, bindU, parts, initR, back, subV, attrV, findS, atL, idx0, idx1, idx2, idx3, idx4, idxm, short, lim, methB, mkind, sameKind, V.und, undL, truthy, isNone, bB, bI, binV, rd, cmpV, eqV, inV, natOf2, natOf3, natOf5, slcV, optNat, mkTup, allD, mkList, setS, setA, small, callB, anyEq, deq, deqs, intEq_dec, strEq_dec, sok0, sok1, sok2, sok3, sok4, sok5, sok6, sok7, sok8, sok9, sok10, sok11, sok12, sok13, sok14, sok15, sok16, sok17, sok18, sok19, sok20, sok21, sok22, sok23, sok24, sok25, sok26, sok27, sok28, sok29, sok30, sok31, sok32, sok33, sok34, sok35, sok36, sok37, sok38, sok39, sok40, sok41, sok42, sok43, sok44, sok45, sok46, sok47, sok48, sok49, sok50, lay, PyData.canLay0, PyData.canLayAll0, PyData.depth, PyData.depthAll, mkDict, dspS, dspI, dspII, putS, ite_self]
/-- how the row stands in the heap -/
structure Row (h : List O) (s bo bl du : Nat) (k : Str) (Bl Du : List PyData) : Prop where
  src : Src h s
  bod : h[bo]? = some (bodyO k bl)
  blk : h[bl]? = some (.list Bl)
  due : h[du]? = some (.list Du)
  ok : OkH h
  n1 : s ≠ bl
  n2 : s ≠ du
  n3 : bl ≠ du
theorem get_set {i j : Nat} {o o' z : O} (e : h[i]? = some o) (e' : h[j]? = some o') (hne : i ≠ j) : (h.set j z)[i]? = some o := by
  rw [List.getElem?_set, if_neg (Ne.symm hne)]; exact e
theorem get_self {i : Nat} {o z : O} (e : h[i]? = some o) : (h.set i z)[i]? = some z := by
  have := (List.getElem?_eq_some_iff.mp e).1
  rw [List.getElem?_set]; simp [this]
theorem Row.bne (w : Row h s bo bl du k Bl Du) : bo ≠ bl ∧ bo ≠ du ∧ bo ≠ s := by
  obtain ⟨big, mixed, hs, _⟩ := w.src
  refine ⟨fun z => ?_, fun z => ?_, fun z => ?_⟩ <;>
  · have q := w.bod
    rw [z] at q
    first | (rw [w.blk] at q; cases q; done) | (rw [w.due] at q; cases q; done) | (rw [hs] at q; cases q; done)
theorem Row.setS (w : Row h s bo bl du k Bl Du) {big mixed : Int} (a : 0 ≤ mixed) (c : mixed < 2147483647) : Row (h.set s (srcL big mixed)) s bo bl du k Bl Du := by
  obtain ⟨_, _, hs, _⟩ := w.src
  exact ⟨w.src.set a c, get_set w.bod hs w.bne.2.2, get_set w.blk hs w.n1.symm, get_set w.due hs w.n2.symm, w.ok.set rfl, w.n1, w.n2, w.n3⟩
theorem Row.setBl (w : Row h s bo bl du k Bl Du) (Bl' : List PyData) : Row (h.set bl (.list Bl')) s bo bl du k Bl' Du := by
  obtain ⟨big, mixed, hs, m0, m1⟩ := w.src
  exact ⟨⟨big, mixed, get_set hs w.blk w.n1, m0, m1⟩, get_set w.bod w.blk w.bne.1, get_self w.blk, get_set w.due w.blk w.n3.symm, w.ok.set rfl, w.n1, w.n2, w.n3⟩
theorem Row.setDu (w : Row h s bo bl du k Bl Du) (Du' : List PyData) : Row (h.set du (.list Du')) s bo bl du k Bl Du' := by
  obtain ⟨big, mixed, hs, m0, m1⟩ := w.src
  exact ⟨⟨big, mixed, get_set hs w.due w.n2, m0, m1⟩, get_set w.bod w.due w.bne.2.1, get_set w.blk w.due w.n3, get_self w.due, w.ok.set rfl, w.n1, w.n2, w.n3⟩
theorem Row.new (hs : Src h s) (hh : OkH h) (k : Str) : Row (h ++ [bodyO k (h.length + 1), .list [], .list []]) s h.length (h.length + 1) (h.length + 2) k [] [] := by
  obtain ⟨big, mixed, h0, m0, m1⟩ := hs
  have hl := (List.getElem?_eq_some_iff.mp h0).1
  refine ⟨⟨big, mixed, get_app h0, m0, m1⟩, by simp, ?_, ?_, hh.app ?_, by omega, by omega, by omega⟩
  · rw [List.getElem?_append_right (Nat.le_add_right _ _)]; simp
  · rw [List.getElem?_append_right (Nat.le_add_right _ _)]; simp
  · simp [undH, O.und, undA, V.und]
abbrev rho (s bo du : Nat) (k : Str) (v : Int) (rows dues : List PyData) (x11 x12 x13 x14 x15 x16 x17 x18 x19 x20 x21 x22 x23 : Option V) (rest : List (Option V)) : List (Option V) :=
  some (.loc s) :: some (.d (.str k)) :: some (.d (tI k)) :: some (.d tB) :: some (.d (tI "i32")) :: some (.loc bo) :: some (.d opX) :: some (.d (.int v)) :: some (.d (.list rows)) :: some (.loc du) :: some (.d (.list dues)) ::
    x11 :: x12 :: x13 :: x14 :: x15 :: x16 :: x17 :: x18 :: x19 :: x20 :: x21 :: x22 :: x23 :: rest
abbrev none12 : List (Option V) := [none, none, none, none, none, none, none, none, none, none, none, none]
def rowHead : List S := [(.asg 1 (.callF 435 [(.var 0), (.lst false [(.lit (.str "u8")), (.lit (.str "i8")), (.lit (.str "i32")), (.lit (.str "u64"))])])),
    (.unp true [2, 3, 4] (.tup [(.tup [(.lit (.str "int")), (.var 1)]), (.tup [(.lit (.str "bool"))]), (.tup [(.lit (.str "int")), (.lit (.str "i32"))])])),
    (.asg 5 (.callC 193 [(.lit (.str "f")), (.lit (.int (0))), (.comp false (.tup [(.var 1), (.lit (.bool true)), (.lit .none)]) (.one 1) (.lst false [(.var 2), (.var 2), (.tup [(.lit (.str "tuple")), (.tup [(.var 2), (.var 3)])]), (.var 3), (.var 4)]) [] [none, none])])),
    (.unp true [6, 7] (.tup [(.tup [(.lit (.str "copy")), (.tup [(.lit (.int (1))), (.tup [])])]), (.callF 463 [(.var 0), (.var 1)])])),
    (.unp true [8, 9] (.tup [(.lst false [(.tup [(.lit (.str "assign")), (.tup [(.lit (.int (1))), (.tup [])]), (.tup [(.lit (.str "use")), (.tup [(.lit (.str "const")), (.var 2), (.var 7)])])])]), (.lst true [])])),
    (.asg 10 (.callB false .list [(.var 8)]))]
theorem row_head (hs : Src h s) (hh : OkH h) : ∃ k lo b v h', isKind k lo b ∧ Row h' s h.length (h.length + 1) (h.length + 2) k [] [] ∧ h'.length = h.length + 3 ∧
    ∀ n b0, exs (R (TT P) (n + 100)) rowHead ⟨b0, h, some (.loc s) :: none :: none :: none :: none :: none :: none :: none :: none :: none :: none :: none :: none :: none :: none :: none :: none :: none :: none :: none :: none :: none :: none :: none :: none12⟩ =
      some (.next, ⟨b0, h', rho s h.length (h.length + 2) k v [sAsg 1 (rUse (cI k v))] [sAsg 1 (rUse (cI k v))] none none none none none none none none none none none none none none12⟩) := by
  obtain ⟨x, big1, mixed1, hx, m0, m1, e1⟩ := c435 (P := P) (xs := [.str "u8", .str "i8", .str "i32", .str "u64"]) hs (by simp) (by simp)
  have hx' : ∃ k lo b, x = .str k ∧ isKind k lo b := by
    simp only [List.mem_cons, List.not_mem_nil, or_false] at hx
    rcases hx with rfl | rfl | rfl | rfl
    · exact ⟨_, _, _, rfl, .inl ⟨rfl, rfl, rfl⟩⟩
    · exact ⟨_, _, _, rfl, .inr (.inl ⟨rfl, rfl, rfl⟩)⟩
    · exact ⟨_, _, _, rfl, .inr (.inr (.inl ⟨rfl, rfl, rfl⟩))⟩
    · exact ⟨_, _, _, rfl, .inr (.inr (.inr ⟨rfl, rfl, rfl⟩))⟩
  obtain ⟨k, lo, b, rfl, K⟩ := hx'
  let h1 := h.set s (srcL big1 mixed1)
  have s1 : Src h1 s := hs.set m0 m1
  have l1 : h1.length = h.length := List.length_set
  have o1 : OkH h1 := hh.set rfl
  have e2 := fun n => c147b (P := P) (n := n) (h := h1) (k := k)
  have s2 : Src (h1 ++ [bodyO k (h.length + 1), .list []]) s := by
    obtain ⟨a, c, d, e, f⟩ := s1
    exact ⟨a, c, get_app d, e, f⟩
  obtain ⟨v, big2, mixed2, sv, m2, m3, e3⟩ := c463 (P := P) s2 K
  rw [l1] at e2
  have sb : ∀ (t : List O) (x : O), (h1 ++ t).set s x = h1.set s x ++ t := fun t x => List.set_append_left _ _ (by
    obtain ⟨_, _, d, _⟩ := s1
    exact (List.getElem?_eq_some_iff.mp d).1)
  rw [sb] at e3
  have s3 : Src (h1.set s (srcL big2 mixed2)) s := s1.set m2 m3
  have o3 : OkH (h1.set s (srcL big2 mixed2)) := o1.set rfl
  have l3 : (h1.set s (srcL big2 mixed2)).length = h.length := by rw [List.length_set, l1]
  have rw3 := Row.new s3 o3 k
  rw [l3] at rw3
  refine ⟨k, lo, b, v, _, K, rw3, by simp [l1], fun n b0 => ?_⟩
  obtain ⟨x, y, k1⟩ := cls193 (P := P)
  have lx : ∀ t : List O, (h1 ++ t).length = h.length + t.length := fun t => by rw [List.length_append, l1]
  have ly : ∀ t : List O, (h1.set s (srcL big2 mixed2) ++ t).length = h.length + t.length := fun t => by rw [List.length_append, l3]
  have e1' : ∀ n, (R (TT P) (n + 40)).call 435 [V.loc s, V.d (.list [.str "u8", .str "i8", .str "i32", .str "u64"])] h = some (.d (.str k), h1) := e1
  simp (config := { decide := true }) [rowHead, rho, e1', e2, e3, k1, lx, ly, l1, compS, run, bindArgs, pick, exs, R_ex, R_ev, stepEx, stepEv, evs, evp, bopV, ifsAll, tst, tstN, tstA, srcOf, nextS, bindT, bindU, parts, initR, back, subV, attrV, findS, atL, idx0, idx1, idx2, idx3, idx4, idxm, short, lim, methB, mkind, sameKind, V.und, undL, truthy, isNone, bB, bI, binV, rd, cmpV, eqV, inV, natOf2, natOf3, natOf5, slcV, optNat, mkTup, allD, mkList, setS, setA, small, callB, anyEq, deq, deqs, intEq_dec, strEq_dec, sok0, sok1, sok2, sok3, sok4, sok5, sok6, sok7, sok8, sok9, sok10, sok11, sok12, sok13, sok14, sok15, sok16, sok17, sok18, sok19, sok20, sok21, sok22, sok23, sok24, sok25, sok26, sok27, sok28, sok29, sok30, sok31, sok32, sok33, sok34, sok35, sok36, sok37, sok38, sok39, sok40, sok41, sok42, sok43, sok44, sok45, sok46, sok47, sok48, sok49, sok50, lay, PyData.canLay0, PyData.canLayAll0, PyData.depth, PyData.depthAll, mkDict, dspS, dspI, dspII, putS, ite_self]
end Mine
end
section
open PySem PySem.W
set_option maxRecDepth 100000
set_option linter.unusedSimpArgs false
set_option linter.unusedVariables false
set_option linter.unusedSectionVars false
namespace Mine
variable {P : Params} {n : Nat} {h : List O} {k : Str} {lo : Int} {b : Nat} {s bo bl du : Nat} {Bl Du : List PyData}
theorem exs_app {r : Rec} {ss' : List S} {st' : St} : ∀ {ss : List S} {st : St}, exs r ss st = some (.next, st') → exs r (ss ++ ss') st = exs r ss' st'
  | [], st, e => by
    have : some (Fl.next, st) = some (Fl.next, st') := e
    cases this; rfl
  | x :: ss, st, e => by
    unfold exs at e
    show exs r (x :: (ss ++ ss')) st = _
    conv => lhs; unfold exs
    cases q : r.ex x st with
    | none => rw [q] at e; cases e
    | some p =>
      obtain ⟨fl, st1⟩ := p
      rw [q] at e
      cases fl with
      | next => exact exs_app e
      | ret v => cases e
theorem exs_ret {r : Rec} {ss' : List S} {v : V} {st' : St} : ∀ {ss : List S} {st : St}, exs r ss st = some (.ret v, st') → exs r (ss ++ ss') st = some (.ret v, st')
  | [], st, e => by cases e
  | x :: ss, st, e => by
    unfold exs at e
    show exs r (x :: (ss ++ ss')) st = _
    conv => lhs; unfold exs
    cases q : r.ex x st with
    | none => rw [q] at e; cases e
    | some p =>
      obtain ⟨fl, st1⟩ := p
      rw [q] at e
      cases fl with
      | next => exact exs_ret e
      | ret v => exact e
def sgA : List S := [(.unp true [12, 13] (.tup [(.callF 435 [(.var 0), (.lst false [(.lit (.str "+")), (.lit (.str "-")), (.lit (.str "*")), (.lit (.str "/")), (.lit (.str "%")), (.lit (.str "<<")), (.lit (.str ">>"))])]), (.callF 463 [(.var 0), (.var 1)])]))]
theorem row_A (w : Row h s bo bl du k Bl Du) (K : isKind k lo b) : ∃ op o h', isOp op ∧ small o = true ∧ Row h' s bo bl du k Bl Du ∧ h'.length = h.length ∧
    ∀ n b0 v rows dues x11 x12 x13 x14 x15 x16 x17 x18 x19 x20 x21 x22 x23 rest, exs (R (TT P) (n + 100)) sgA ⟨b0, h, rho s bo du k v rows dues x11 x12 x13 x14 x15 x16 x17 x18 x19 x20 x21 x22 x23 rest⟩ =
      some (.next, ⟨b0, h', rho s bo du k v rows dues x11 (some (.d (.str op))) (some (.d (.int o))) x14 x15 x16 x17 x18 x19 x20 x21 x22 x23 rest⟩) := by
  obtain ⟨x, big1, mixed1, hx, m0, m1, e1⟩ := c435 (P := P) (xs := [.str "+", .str "-", .str "*", .str "/", .str "%", .str "<<", .str ">>"]) w.src (by simp) (by simp)
  have hx' : ∃ op, x = .str op ∧ isOp op := by
    simp only [List.mem_cons, List.not_mem_nil, or_false] at hx
    rcases hx with rfl | rfl | rfl | rfl | rfl | rfl | rfl
    · exact ⟨_, rfl, .inl rfl⟩
    · exact ⟨_, rfl, .inr (.inl rfl)⟩
    · exact ⟨_, rfl, .inr (.inr (.inl rfl))⟩
    · exact ⟨_, rfl, .inr (.inr (.inr (.inl rfl)))⟩
    · exact ⟨_, rfl, .inr (.inr (.inr (.inr (.inl rfl))))⟩
    · exact ⟨_, rfl, .inr (.inr (.inr (.inr (.inr (.inl rfl)))))⟩
    · exact ⟨_, rfl, .inr (.inr (.inr (.inr (.inr (.inr rfl)))))⟩
  obtain ⟨op, rfl, hop⟩ := hx'
  have w1 := w.setS (big := big1) m0 m1
  obtain ⟨o, big2, mixed2, so, m2, m3, e2⟩ := c463 (P := P) w1.src K
  have w2 := w1.setS (big := big2) m2 m3
  refine ⟨op, o, _, hop, so, w2, by rw [List.length_set, List.length_set], fun n b0 v rows dues x11 x12 x13 x14 x15 x16 x17 x18 x19 x20 x21 x22 x23 rest => ?_⟩
  simp (config := { decide := true }) [sgA, rho, e1, e2, run, bindArgs, pick, exs, R_ex, R_ev, stepEx, stepEv, evs, evp, bopV, ifsAll, tst, tstN, tstA, srcOf, nextS, bindT, bindU, parts, initR, back, subV, attrV, findS, atL, idx0, idx1, idx2, idx3, idx4, idxm, short, lim, methB, mkind, sameKind, V.und, undL, truthy, isNone, bB, bI, binV, rd, cmpV, eqV, inV, natOf2, natOf3, natOf5, slcV, optNat, mkTup, allD, mkList, setS, setA, small, callB, anyEq, deq, deqs, intEq_dec, strEq_dec, sok0, sok1, sok2, sok3, sok4, sok5, sok6, sok7, sok8, sok9, sok10, sok11, sok12, sok13, sok14, sok15, sok16, sok17, sok18, sok19, sok20, sok21, sok22, sok23, sok24, sok25, sok26, sok27, sok28, sok29, sok30, sok31, sok32, sok33, sok34, sok35, sok36, sok37, sok38, sok39, sok40, sok41, sok42, sok43, sok44, sok45, sok46, sok47, sok48, sok49, sok50, lay, PyData.canLay0, PyData.canLayAll0, PyData.depth, PyData.depthAll, mkDict, dspS, dspI, dspII, putS, ite_self]
abbrev sEq (k : Str) (o : Int) : PyData := sAsg 3 (rBin "==" (cI k o) (cI k 0))
def sgB : List S := [(.asg 14 (.tup [(.lit (.str "const")), (.var 2), (.var 13)])),
    (.asg 8 (.bin .Add (.var 8) (.lst false [(.tup [(.lit (.str "assign")), (.tup [(.lit (.int (3))), (.tup [])]), (.tup [(.lit (.str "binary")), (.lit (.str "==")), (.var 14), (.tup [(.lit (.str "const")), (.var 2), (.lit (.int (0)))])])])])))]
theorem row_B {v o : Int} {op : Str} {rows dues : List PyData} {b0 : Nat} {x11 x14 x15 x16 x17 x18 x19 x20 x21 x22 x23 : Option V} {rest : List (Option V)} (hr : rows.length ≤ 100) : exs (R (TT P) (n + 100)) sgB ⟨b0, h, rho s bo du k v rows dues x11 (some (.d (.str op))) (some (.d (.int o))) x14 x15 x16 x17 x18 x19 x20 x21 x22 x23 rest⟩ =
      some (.next, ⟨b0, h, rho s bo du k v (rows ++ [sEq k o]) dues x11 (some (.d (.str op))) (some (.d (.int o))) (some (.d (cI k o))) x15 x16 x17 x18 x19 x20 x21 x22 x23 rest⟩) := by
  have q : rows.length ≤ 1000000 := by omega
  simp (config := { decide := true }) [sgB, rho, q, run, bindArgs, pick, exs, R_ex, R_ev, stepEx, stepEv, evs, evp, bopV, ifsAll, tst, tstN, tstA, srcOf, nextS, bindT, bindU, parts, initR, back, subV, attrV, findS, atL, idx0, idx1, idx2, idx3, idx4, idxm, short, lim, methB, mkind, sameKind, V.und, undL, truthy, isNone, bB, bI, binV, rd, cmpV, eqV, inV, natOf2, natOf3, natOf5, slcV, optNat, mkTup, allD, mkList, setS, setA, small, callB, anyEq, deq, deqs, intEq_dec, strEq_dec, sok0, sok1, sok2, sok3, sok4, sok5, sok6, sok7, sok8, sok9, sok10, sok11, sok12, sok13, sok14, sok15, sok16, sok17, sok18, sok19, sok20, sok21, sok22, sok23, sok24, sok25, sok26, sok27, sok28, sok29, sok30, sok31, sok32, sok33, sok34, sok35, sok36, sok37, sok38, sok39, sok40, sok41, sok42, sok43, sok44, sok45, sok46, sok47, sok48, sok49, sok50, lay, PyData.canLay0, PyData.canLayAll0, PyData.depth, PyData.depthAll, mkDict, dspS, dspI, dspII, putS, ite_self]
def isN (op : Str) (o : Int) : Bool := (decide (op = "/") || decide (op = "%")) && decide (o = 0)
def sgB2 : List S := [(.asg 15 (.bop true [(.cmp .In (.var 12) (.lst false [(.lit (.str "/")), (.lit (.str "%"))])), (.cmp .Eq (.var 13) (.lit (.int (0))))]))]
theorem row_B2 {v o : Int} {op : Str} {rows dues : List PyData} {b0 : Nat} {x11 x14 x15 x16 x17 x18 x19 x20 x21 x22 x23 : Option V} {rest : List (Option V)} (hop : isOp op) : exs (R (TT P) (n + 100)) sgB2 ⟨b0, h, rho s bo du k v rows dues x11 (some (.d (.str op))) (some (.d (.int o))) x14 x15 x16 x17 x18 x19 x20 x21 x22 x23 rest⟩ =
      some (.next, ⟨b0, h, rho s bo du k v rows dues x11 (some (.d (.str op))) (some (.d (.int o))) x14 (some (.d (.bool (isN op o)))) x16 x17 x18 x19 x20 x21 x22 x23 rest⟩) := by
  rcases hop with rfl | rfl | rfl | rfl | rfl | rfl | rfl <;> simp (config := { decide := true }) [sgB2, rho, isN, bopV, run, bindArgs, pick, exs, R_ex, R_ev, stepEx, stepEv, evs, evp, bopV, ifsAll, tst, tstN, tstA, srcOf, nextS, bindT, bindU, parts, initR, back, subV, attrV, findS, atL, idx0, idx1, idx2, idx3, idx4, idxm, short, lim, methB, mkind, sameKind, V.und, undL, truthy, isNone, bB, bI, binV, rd, cmpV, eqV, inV, natOf2, natOf3, natOf5, slcV, optNat, mkTup, allD, mkList, setS, setA, small, callB, anyEq, deq, deqs, intEq_dec, strEq_dec, sok0, sok1, sok2, sok3, sok4, sok5, sok6, sok7, sok8, sok9, sok10, sok11, sok12, sok13, sok14, sok15, sok16, sok17, sok18, sok19, sok20, sok21, sok22, sok23, sok24, sok25, sok26, sok27, sok28, sok29, sok30, sok31, sok32, sok33, sok34, sok35, sok36, sok37, sok38, sok39, sok40, sok41, sok42, sok43, sok44, sok45, sok46, sok47, sok48, sok49, sok50, lay, PyData.canLay0, PyData.canLayAll0, PyData.depth, PyData.depthAll, mkDict, dspS, dspI, dspII, putS, ite_self]
def sgC : List S := [(.expr (.methB .append (.attr (.var 5) "blocks") [(.lst false [(.var 8), (.tup [(.lit (.str "assert")), (.tup [(.lit (.str "copy")), (.tup [(.lit (.int (3))), (.tup [])])]), (.lit (.bool false)), (.lit (.str "none")), (.bin .Add (.callB false .len [(.attr (.var 5) "blocks")]) (.lit (.int (1))))])])])),
    (.asg 10 (.bin .Add (.var 10) (.lst false [(.tup [(.lit (.str "assign")), (.tup [(.lit (.int (3))), (.tup [])]), (.tup [(.lit (.str "use")), (.tup [(.lit (.str "const")), (.var 3), (.cmp .Eq (.var 13) (.lit (.int (0))))])])])]))),
    (.asg 16 (.callB false .len [(.attr (.var 5) "blocks")]))]
theorem row_C (w : Row h s bo bl du k Bl Du) {v o : Int} {op : Str} {rows dues : List PyData} {b0 : Nat} {x11 x14 x15 x16 x17 x18 x19 x20 x21 x22 x23 : Option V} {rest : List (Option V)} (hr : dues.length ≤ 100) (hb : Bl.length ≤ 100) : exs (R (TT P) (n + 100)) sgC ⟨b0, h, rho s bo du k v rows dues x11 (some (.d (.str op))) (some (.d (.int o))) x14 x15 x16 x17 x18 x19 x20 x21 x22 x23 rest⟩ =
      some (.next, ⟨b0, h.set bl (.list (Bl ++ [.list [.list rows, tAs opC3 "none" ((Bl.length : Int) + 1)]])), rho s bo du k v rows (dues ++ [sAsg 3 (rUse (cB (decide (o = 0))))]) x11 (some (.d (.str op))) (some (.d (.int o))) x14 x15 (some (.d (.int ((Bl.length : Int) + 1)))) x17 x18 x19 x20 x21 x22 x23 rest⟩) := by
  have q1 : dues.length ≤ 1000000 := by omega
  have q2 : Bl.length ≤ 1000000 := by omega
  have q3 : Bl.length + 1 ≤ 1000000 := by omega
  have a1 := w.bod
  have a2 := w.blk
  have a3 : ∀ z : O, (h.set bl z)[bl]? = some z := fun z => get_self a2
  have a4 : ∀ z : O, (h.set bl z)[bo]? = some (bodyO k bl) := fun z => get_set a1 a2 w.bne.1
  simp (config := { decide := true }) [sgC, rho, a1, a2, a3, a4, q1, q2, q3, run, bindArgs, pick, exs, R_ex, R_ev, stepEx, stepEv, evs, evp, bopV, ifsAll, tst, tstN, tstA, srcOf, nextS, bindT, bindU, parts, initR, back, subV, attrV, findS, atL, idx0, idx1, idx2, idx3, idx4, idxm, short, lim, methB, mkind, sameKind, V.und, undL, truthy, isNone, bB, bI, binV, rd, cmpV, eqV, inV, natOf2, natOf3, natOf5, slcV, optNat, mkTup, allD, mkList, setS, setA, small, callB, anyEq, deq, deqs, intEq_dec, strEq_dec, sok0, sok1, sok2, sok3, sok4, sok5, sok6, sok7, sok8, sok9, sok10, sok11, sok12, sok13, sok14, sok15, sok16, sok17, sok18, sok19, sok20, sok21, sok22, sok23, sok24, sok25, sok26, sok27, sok28, sok29, sok30, sok31, sok32, sok33, sok34, sok35, sok36, sok37, sok38, sok39, sok40, sok41, sok42, sok43, sok44, sok45, sok46, sok47, sok48, sok49, sok50, lay, PyData.canLay0, PyData.canLayAll0, PyData.depth, PyData.depthAll, mkDict, dspS, dspI, dspII, putS, ite_self]
end Mine
end
section
open PySem PySem.W
set_option maxRecDepth 100000
set_option linter.unusedSimpArgs false
set_option linter.unusedVariables false
set_option linter.unusedSectionVars false
namespace Mine
variable {P : Params} {n : Nat} {h : List O} {k : Str} {lo : Int} {b : Nat} {s bo bl du : Nat} {Bl Du : List PyData}
variable {v o g : Int} {op : Str} {rows dues : List PyData} {b0 : Nat} {x11 x12 x13 x14 x15 x16 x17 x18 x19 x20 x21 x22 x23 : Option V} {rest : List (Option V)}
def endN (o g : Int) : PyData := if o = 0 then tAs (cB true) "none" g else tGo g
def sgD : List S := [(.asg 17 (.ite (.cmp .NotEq (.var 13) (.lit (.int (0)))) (.tup [(.lit (.str "goto")), (.var 16)]) (.tup [(.lit (.str "assert")), (.tup [(.lit (.str "const")), (.var 3), (.lit (.bool true))]), (.lit (.bool false)), (.lit (.str "none")), (.var 16)]))),
    (.expr (.methB .append (.var 9) [(.lst false [(.var 10), (.var 17)])]))]
theorem row_D (w : Row h s bo bl du k Bl Du) (hd : Du.length ≤ 100) : exs (R (TT P) (n + 100)) sgD ⟨b0, h, rho s bo du k v rows dues x11 x12 (some (.d (.int o))) x14 x15 (some (.d (.int g))) x17 x18 x19 x20 x21 x22 x23 rest⟩ =
      some (.next, ⟨b0, h.set du (.list (Du ++ [.list [.list dues, endN o g]])), rho s bo du k v rows dues x11 x12 (some (.d (.int o))) x14 x15 (some (.d (.int g))) (some (.d (endN o g))) x18 x19 x20 x21 x22 x23 rest⟩) := by
  have q2 : Du.length ≤ 1000000 := by omega
  have a2 := w.due
  by_cases h0 : o = 0 <;> simp (config := { decide := true }) [sgD, rho, endN, a2, q2, h0, run, bindArgs, pick, exs, R_ex, R_ev, stepEx, stepEv, evs, evp, bopV, ifsAll, tst, tstN, tstA, srcOf, nextS, bindT, bindU, parts, initR, back, subV, attrV, findS, atL, idx0, idx1, idx2, idx3, idx4, idxm, short, lim, methB, mkind, sameKind, V.und, undL, truthy, isNone, bB, bI, binV, rd, cmpV, eqV, inV, natOf2, natOf3, natOf5, slcV, optNat, mkTup, allD, mkList, setS, setA, small, callB, anyEq, deq, deqs, intEq_dec, strEq_dec, sok0, sok1, sok2, sok3, sok4, sok5, sok6, sok7, sok8, sok9, sok10, sok11, sok12, sok13, sok14, sok15, sok16, sok17, sok18, sok19, sok20, sok21, sok22, sok23, sok24, sok25, sok26, sok27, sok28, sok29, sok30, sok31, sok32, sok33, sok34, sok35, sok36, sok37, sok38, sok39, sok40, sok41, sok42, sok43, sok44, sok45, sok46, sok47, sok48, sok49, sok50, lay, PyData.canLay0, PyData.canLayAll0, PyData.depth, PyData.depthAll, mkDict, dspS, dspI, dspII, putS, ite_self]
theorem c442z {a : Int} (K : isKind k lo b) (hop : op = "/" ∨ op = "%") : (R (TT P) (n + 60)).call 442 [.d (.str k), .d (.str op), .d (.int a), .d (.int 0)] h = some (.d .none, h) := by
  rw [R_call _ _ _ _ _ (at_442 P)]
  rcases hop with rfl | rfl <;> simp (config := { decide := true }) [fn_442, run, bindArgs, pick, exs, R_ex, R_ev, stepEx, stepEv, evs, evp, bopV, ifsAll, tst, tstN, tstA, srcOf, nextS, bindT, bindU, parts, initR, back, subV, attrV, findS, atL, idx0, idx1, idx2, idx3, idx4, idxm, short, lim, methB, mkind, sameKind, V.und, undL, truthy, isNone, bB, bI, binV, rd, cmpV, eqV, inV, natOf2, natOf3, natOf5, slcV, optNat, mkTup, allD, mkList, setS, setA, small, callB, anyEq, deq, deqs, intEq_dec, strEq_dec, sok0, sok1, sok2, sok3, sok4, sok5, sok6, sok7, sok8, sok9, sok10, sok11, sok12, sok13, sok14, sok15, sok16, sok17, sok18, sok19, sok20, sok21, sok22, sok23, sok24, sok25, sok26, sok27, sok28, sok29, sok30, sok31, sok32, sok33, sok34, sok35, sok36, sok37, sok38, sok39, sok40, sok41, sok42, sok43, sok44, sok45, sok46, sok47, sok48, sok49, sok50, lay, PyData.canLay0, PyData.canLayAll0, PyData.depth, PyData.depthAll, mkDict, dspS, dspI, dspII, putS, ite_self]
abbrev sChk (k op : Str) (a : PyData) (o : Int) : PyData := sAsg 2 (rChk op a (cI k o))
def sgE : List S := [(.asg 18 (.callF 442 [(.var 1), (.var 12), (.var 7), (.var 13)])),
    (.asg 19 (.tup [(.lit (.str "assign")), (.tup [(.lit (.int (2))), (.tup [])]), (.tup [(.lit (.str "checked")), (.var 12), (.var 6), (.var 14)])]))]
theorem row_E {W : PyData} (e : ∀ n, (R (TT P) (n + 60)).call 442 [.d (.str k), .d (.str op), .d (.int v), .d (.int o)] h = some (.d W, h)) : exs (R (TT P) (n + 100)) sgE ⟨b0, h, rho s bo du k v rows dues x11 (some (.d (.str op))) (some (.d (.int o))) (some (.d (cI k o))) x15 x16 x17 x18 x19 x20 x21 x22 x23 rest⟩ =
      some (.next, ⟨b0, h, rho s bo du k v rows dues x11 (some (.d (.str op))) (some (.d (.int o))) (some (.d (cI k o))) x15 x16 x17 (some (.d W)) (some (.d (sChk k op opX o))) x20 x21 x22 x23 rest⟩) := by
  simp (config := { decide := true }) [sgE, rho, e, run, bindArgs, pick, exs, R_ex, R_ev, stepEx, stepEv, evs, evp, bopV, ifsAll, tst, tstN, tstA, srcOf, nextS, bindT, bindU, parts, initR, back, subV, attrV, findS, atL, idx0, idx1, idx2, idx3, idx4, idxm, short, lim, methB, mkind, sameKind, V.und, undL, truthy, isNone, bB, bI, binV, rd, cmpV, eqV, inV, natOf2, natOf3, natOf5, slcV, optNat, mkTup, allD, mkList, setS, setA, small, callB, anyEq, deq, deqs, intEq_dec, strEq_dec, sok0, sok1, sok2, sok3, sok4, sok5, sok6, sok7, sok8, sok9, sok10, sok11, sok12, sok13, sok14, sok15, sok16, sok17, sok18, sok19, sok20, sok21, sok22, sok23, sok24, sok25, sok26, sok27, sok28, sok29, sok30, sok31, sok32, sok33, sok34, sok35, sok36, sok37, sok38, sok39, sok40, sok41, sok42, sok43, sok44, sok45, sok46, sok47, sok48, sok49, sok50, lay, PyData.canLay0, PyData.canLayAll0, PyData.depth, PyData.depthAll, mkDict, dspS, dspI, dspII, putS, ite_self]
def sgF : List S := [(.expr (.methB .append (.attr (.var 5) "blocks") [(.lst false [(.lst false [(.var 19)]), (.tup [(.lit (.str "assert")), (.tup [(.lit (.str "copy")), (.tup [(.lit (.int (2))), (.tup [(.tup [(.lit (.str "field")), (.lit (.int (1)))])])])]), (.lit (.bool false)), (.lit (.str "over")), (.bin .Add (.var 16) (.lit (.int (1))))])])])),
    (.asg 20 (.tup [(.lit (.str "assign")), (.tup [(.lit (.int (2))), (.tup [])]), (.tup [(.lit (.str "checked")), (.var 12), (.tup [(.lit (.str "const")), (.var 2), (.var 7)]), (.var 14)])]))]
theorem row_F (w : Row h s bo bl du k Bl Du) {c : PyData} (hb : Bl.length ≤ 100) : exs (R (TT P) (n + 100)) sgF ⟨b0, h, rho s bo du k v rows dues x11 (some (.d (.str op))) x13 (some (.d (cI k o))) x15 (some (.d (.int g))) x17 x18 (some (.d c)) x20 x21 x22 x23 rest⟩ =
      some (.next, ⟨b0, h.set bl (.list (Bl ++ [.list [.list [c], tAs opC2 "over" (g + 1)]])), rho s bo du k v rows dues x11 (some (.d (.str op))) x13 (some (.d (cI k o))) x15 (some (.d (.int g))) x17 x18 (some (.d c)) (some (.d (sChk k op (cI k v) o))) x21 x22 x23 rest⟩) := by
  have q2 : Bl.length ≤ 1000000 := by omega
  have a1 := w.bod
  have a2 := w.blk
  simp (config := { decide := true }) [sgF, rho, a1, a2, q2, run, bindArgs, pick, exs, R_ex, R_ev, stepEx, stepEv, evs, evp, bopV, ifsAll, tst, tstN, tstA, srcOf, nextS, bindT, bindU, parts, initR, back, subV, attrV, findS, atL, idx0, idx1, idx2, idx3, idx4, idxm, short, lim, methB, mkind, sameKind, V.und, undL, truthy, isNone, bB, bI, binV, rd, cmpV, eqV, inV, natOf2, natOf3, natOf5, slcV, optNat, mkTup, allD, mkList, setS, setA, small, callB, anyEq, deq, deqs, intEq_dec, strEq_dec, sok0, sok1, sok2, sok3, sok4, sok5, sok6, sok7, sok8, sok9, sok10, sok11, sok12, sok13, sok14, sok15, sok16, sok17, sok18, sok19, sok20, sok21, sok22, sok23, sok24, sok25, sok26, sok27, sok28, sok29, sok30, sok31, sok32, sok33, sok34, sok35, sok36, sok37, sok38, sok39, sok40, sok41, sok42, sok43, sok44, sok45, sok46, sok47, sok48, sok49, sok50, lay, PyData.canLay0, PyData.canLayAll0, PyData.depth, PyData.depthAll, mkDict, dspS, dspI, dspII, putS, ite_self]
def sgG : List S := [(.ite (.var 15) [(.ret (.callF 482 [(.var 5), (.bin .Add (.var 9) (.lst false [(.lst false [(.lst false [(.var 20)]), (.sub (.sub (.attr (.var 5) "blocks") (.neg (.lit (.int (1))))) (.lit (.int (1))))])])), (.var 7)]))] [])]
theorem row_G0 : exs (R (TT P) (n + 100)) sgG ⟨b0, h, rho s bo du k v rows dues x11 x12 x13 x14 (some (.d (.bool false))) x16 x17 x18 x19 x20 x21 x22 x23 rest⟩ =
      some (.next, ⟨b0, h, rho s bo du k v rows dues x11 x12 x13 x14 (some (.d (.bool false))) x16 x17 x18 x19 x20 x21 x22 x23 rest⟩) := by
  simp (config := { decide := true }) [sgG, rho, run, bindArgs, pick, exs, R_ex, R_ev, stepEx, stepEv, evs, evp, bopV, ifsAll, tst, tstN, tstA, srcOf, nextS, bindT, bindU, parts, initR, back, subV, attrV, findS, atL, idx0, idx1, idx2, idx3, idx4, idxm, short, lim, methB, mkind, sameKind, V.und, undL, truthy, isNone, bB, bI, binV, rd, cmpV, eqV, inV, natOf2, natOf3, natOf5, slcV, optNat, mkTup, allD, mkList, setS, setA, small, callB, anyEq, deq, deqs, intEq_dec, strEq_dec, sok0, sok1, sok2, sok3, sok4, sok5, sok6, sok7, sok8, sok9, sok10, sok11, sok12, sok13, sok14, sok15, sok16, sok17, sok18, sok19, sok20, sok21, sok22, sok23, sok24, sok25, sok26, sok27, sok28, sok29, sok30, sok31, sok32, sok33, sok34, sok35, sok36, sok37, sok38, sok39, sok40, sok41, sok42, sok43, sok44, sok45, sok46, sok47, sok48, sok49, sok50, lay, PyData.canLay0, PyData.canLayAll0, PyData.depth, PyData.depthAll, mkDict, dspS, dspI, dspII, putS, ite_self]
theorem row_G1 {c t y : PyData} {h' : List O} (w : Row h s bo bl du k (Bl ++ [.list [y, t]]) Du) (hb : Bl.length ≤ 100) (hd : Du.length ≤ 100)
    (e : ∀ n, (R (TT P) (n + 260)).call 482 [.loc bo, .d (.list (Du ++ [.list [.list [c], t]])), .d (.int v)] h = some (.d (.bool true), h')) :
    exs (R (TT P) (n + 270)) sgG ⟨b0, h, rho s bo du k v rows dues x11 x12 x13 x14 (some (.d (.bool true))) x16 x17 x18 x19 (some (.d c)) x21 x22 x23 rest⟩ =
      some (.ret (.d (.bool true)), ⟨b0, h', rho s bo du k v rows dues x11 x12 x13 x14 (some (.d (.bool true))) x16 x17 x18 x19 (some (.d c)) x21 x22 x23 rest⟩) := by
  have q2 : Bl.length + 1 ≤ 1000000 := by omega
  have q3 : Du.length ≤ 1000000 := by omega
  have a1 := w.bod
  have a2 := w.blk
  have a3 := w.due
  simp (config := { decide := true }) [sgG, rho, a1, a2, a3, e, q2, q3, run, bindArgs, pick, exs, R_ex, R_ev, stepEx, stepEv, evs, evp, bopV, ifsAll, tst, tstN, tstA, srcOf, nextS, bindT, bindU, parts, initR, back, subV, attrV, findS, atL, idx0, idx1, idx2, idx3, idx4, idxm, short, lim, methB, mkind, sameKind, V.und, undL, truthy, isNone, bB, bI, binV, rd, cmpV, eqV, inV, natOf2, natOf3, natOf5, slcV, optNat, mkTup, allD, mkList, setS, setA, small, callB, anyEq, deq, deqs, intEq_dec, strEq_dec, sok0, sok1, sok2, sok3, sok4, sok5, sok6, sok7, sok8, sok9, sok10, sok11, sok12, sok13, sok14, sok15, sok16, sok17, sok18, sok19, sok20, sok21, sok22, sok23, sok24, sok25, sok26, sok27, sok28, sok29, sok30, sok31, sok32, sok33, sok34, sok35, sok36, sok37, sok38, sok39, sok40, sok41, sok42, sok43, sok44, sok45, sok46, sok47, sok48, sok49, sok50, lay, PyData.canLay0, PyData.canLayAll0, PyData.depth, PyData.depthAll, mkDict, dspS, dspI, dspII, putS, ite_self]
def endO (z : Bool) (g : Int) : PyData := if z = true then tAs (cB true) "over" g else tGo g
def sgH : List S := [(.asg 21 (.callF 456 [(.var 1), (.var 12), (.var 7), (.var 13), (.var 18)])),
    (.asg 17 (.ite (.var 21) (.tup [(.lit (.str "assert")), (.tup [(.lit (.str "const")), (.var 3), (.lit (.bool true))]), (.lit (.bool false)), (.lit (.str "over")), (.bin .Add (.var 16) (.lit (.int (1))))]) (.tup [(.lit (.str "goto")), (.bin .Add (.var 16) (.lit (.int (1))))]))),
    (.expr (.methB .append (.var 9) [(.lst false [(.lst false [(.var 20)]), (.var 17)])]))]
theorem row_H (w : Row h s bo bl du k Bl Du) {c : PyData} (K : isKind k lo b) (hop : isOp op) (hd : Du.length ≤ 100) : exs (R (TT P) (n + 100)) sgH ⟨b0, h, rho s bo du k v rows dues x11 (some (.d (.str op))) (some (.d (.int o))) x14 x15 (some (.d (.int g))) x17 (some (.d (.int (wholeS op b v o)))) x19 (some (.d c)) x21 x22 x23 rest⟩ =
      some (.next, ⟨b0, h.set du (.list (Du ++ [.list [.list [c], endO (overS op lo b v o) (g + 1)]])), rho s bo du k v rows dues x11 (some (.d (.str op))) (some (.d (.int o))) x14 x15 (some (.d (.int g))) (some (.d (endO (overS op lo b v o) (g + 1)))) (some (.d (.int (wholeS op b v o)))) x19 (some (.d c)) (some (.d (.bool (overS op lo b v o)))) x22 x23 rest⟩) := by
  have q2 : Du.length ≤ 1000000 := by omega
  have a2 := w.due
  have e := fun n h => c456 (P := P) (n := n) (h := h) (a := v) (o := o) K hop
  cases hz : overS op lo b v o <;> simp (config := { decide := true }) [sgH, rho, endO, a2, q2, e, hz, run, bindArgs, pick, exs, R_ex, R_ev, stepEx, stepEv, evs, evp, bopV, ifsAll, tst, tstN, tstA, srcOf, nextS, bindT, bindU, parts, initR, back, subV, attrV, findS, atL, idx0, idx1, idx2, idx3, idx4, idxm, short, lim, methB, mkind, sameKind, V.und, undL, truthy, isNone, bB, bI, binV, rd, cmpV, eqV, inV, natOf2, natOf3, natOf5, slcV, optNat, mkTup, allD, mkList, setS, setA, small, callB, anyEq, deq, deqs, intEq_dec, strEq_dec, sok0, sok1, sok2, sok3, sok4, sok5, sok6, sok7, sok8, sok9, sok10, sok11, sok12, sok13, sok14, sok15, sok16, sok17, sok18, sok19, sok20, sok21, sok22, sok23, sok24, sok25, sok26, sok27, sok28, sok29, sok30, sok31, sok32, sok33, sok34, sok35, sok36, sok37, sok38, sok39, sok40, sok41, sok42, sok43, sok44, sok45, sok46, sok47, sok48, sok49, sok50, lay, PyData.canLay0, PyData.canLayAll0, PyData.depth, PyData.depthAll, mkDict, dspS, dspI, dspII, putS, ite_self]
def sgI : List S := [(.asg 7 (.callF 449 [(.var 1), (.var 18)])),
    (.asg 8 (.lst false [(.tup [(.lit (.str "assign")), (.tup [(.lit (.int (1))), (.tup [])]), (.tup [(.lit (.str "use")), (.tup [(.lit (.str "move")), (.tup [(.lit (.int (2))), (.tup [(.tup [(.lit (.str "field")), (.lit (.int (0)))])])])])])]), (.tup [(.lit (.str "print")), (.var 6)])])),
    (.asg 10 (.lst false [(.tup [(.lit (.str "assign")), (.tup [(.lit (.int (1))), (.tup [])]), (.tup [(.lit (.str "use")), (.tup [(.lit (.str "const")), (.var 2), (.var 7)])])]), (.tup [(.lit (.str "print")), (.tup [(.lit (.str "const")), (.var 2), (.var 7)])])]))]
theorem row_I {x : Int} (K : isKind k lo b) : exs (R (TT P) (n + 100)) sgI ⟨b0, h, rho s bo du k v rows dues x11 x12 x13 x14 x15 x16 x17 (some (.d (.int x))) x19 x20 x21 x22 x23 rest⟩ =
      some (.next, ⟨b0, h, rho s bo du k (wrapS lo b x) [sAsg 1 (rUse opM2), sPrint opX] [sAsg 1 (rUse (cI k (wrapS lo b x))), sPrint (cI k (wrapS lo b x))] x11 x12 x13 x14 x15 x16 x17 (some (.d (.int x))) x19 x20 x21 x22 x23 rest⟩) := by
  have e := fun n h => c449 (P := P) (n := n) (h := h) (x := x) K
  simp (config := { decide := true }) [sgI, rho, e, run, bindArgs, pick, exs, R_ex, R_ev, stepEx, stepEv, evs, evp, bopV, ifsAll, tst, tstN, tstA, srcOf, nextS, bindT, bindU, parts, initR, back, subV, attrV, findS, atL, idx0, idx1, idx2, idx3, idx4, idxm, short, lim, methB, mkind, sameKind, V.und, undL, truthy, isNone, bB, bI, binV, rd, cmpV, eqV, inV, natOf2, natOf3, natOf5, slcV, optNat, mkTup, allD, mkList, setS, setA, small, callB, anyEq, deq, deqs, intEq_dec, strEq_dec, sok0, sok1, sok2, sok3, sok4, sok5, sok6, sok7, sok8, sok9, sok10, sok11, sok12, sok13, sok14, sok15, sok16, sok17, sok18, sok19, sok20, sok21, sok22, sok23, sok24, sok25, sok26, sok27, sok28, sok29, sok30, sok31, sok32, sok33, sok34, sok35, sok36, sok37, sok38, sok39, sok40, sok41, sok42, sok43, sok44, sok45, sok46, sok47, sok48, sok49, sok50, lay, PyData.canLay0, PyData.canLayAll0, PyData.depth, PyData.depthAll, mkDict, dspS, dspI, dspII, putS, ite_self]
def sgJ : List S := [(.unp false [22, 23] (.callF 475 [(.var 0), (.var 1), (.var 7)])),
    (.unp true [8, 10] (.tup [(.bin .Add (.var 8) (.var 22)), (.bin .Add (.var 10) (.var 23))]))]
theorem row_J (w : Row h s bo bl du k Bl Du) (K : isKind k lo b) (hr : rows.length ≤ 100) (hd : dues.length ≤ 100) : ∃ more told h' y22 y23, More k lo b v more told ∧ Row h' s bo bl du k Bl Du ∧ h'.length = h.length ∧
    ∀ n b0 x11 x12 x13 x14 x15 x16 x17 x18 x19 x20 x21 x22 x23 rest, exs (R (TT P) (n + 100)) sgJ ⟨b0, h, rho s bo du k v rows dues x11 x12 x13 x14 x15 x16 x17 x18 x19 x20 x21 x22 x23 rest⟩ =
      some (.next, ⟨b0, h', rho s bo du k v (rows ++ more) (dues ++ told) x11 x12 x13 x14 x15 x16 x17 x18 x19 x20 x21 y22 y23 rest⟩) := by
  obtain ⟨more, told, big, mixed, hm, m0, m1, e⟩ := c475 (P := P) (v := v) w.src K
  refine ⟨more, told, _, some (.d (.list more)), some (.d (.list told)), hm, w.setS (big := big) m0 m1, List.length_set, fun n b0 x11 x12 x13 x14 x15 x16 x17 x18 x19 x20 x21 x22 x23 rest => ?_⟩
  have l1 : more.length ≤ 1000000 ∧ told.length ≤ 1000000 := by cases hm <;> simp
  obtain ⟨l1, l2⟩ := l1
  have q1 : rows.length ≤ 1000000 := by omega
  have q2 : dues.length ≤ 1000000 := by omega
  simp (config := { decide := true }) [sgJ, rho, e, l1, l2, q1, q2, run, bindArgs, pick, exs, R_ex, R_ev, stepEx, stepEv, evs, evp, bopV, ifsAll, tst, tstN, tstA, srcOf, nextS, bindT, bindU, parts, initR, back, subV, attrV, findS, atL, idx0, idx1, idx2, idx3, idx4, idxm, short, lim, methB, mkind, sameKind, V.und, undL, truthy, isNone, bB, bI, binV, rd, cmpV, eqV, inV, natOf2, natOf3, natOf5, slcV, optNat, mkTup, allD, mkList, setS, setA, small, callB, anyEq, deq, deqs, intEq_dec, strEq_dec, sok0, sok1, sok2, sok3, sok4, sok5, sok6, sok7, sok8, sok9, sok10, sok11, sok12, sok13, sok14, sok15, sok16, sok17, sok18, sok19, sok20, sok21, sok22, sok23, sok24, sok25, sok26, sok27, sok28, sok29, sok30, sok31, sok32, sok33, sok34, sok35, sok36, sok37, sok38, sok39, sok40, sok41, sok42, sok43, sok44, sok45, sok46, sok47, sok48, sok49, sok50, lay, PyData.canLay0, PyData.canLayAll0, PyData.depth, PyData.depthAll, mkDict, dspS, dspI, dspII, putS, ite_self]


end Mine
end
section
open PySem PySem.W
set_option maxRecDepth 100000
set_option linter.unusedSimpArgs false
set_option linter.unusedVariables false
set_option linter.unusedSectionVars false
namespace Mine
variable {P : Params} {n : Nat} {h : List O} {k : Str} {lo : Int} {b : Nat} {s bo bl du : Nat} {Bl Du rows dues : List PyData} {v : Int} {j : Nat}
/-- the chain so far -/
structure Pre (k : Str) (lo : Int) (b : Nat) (i : Nat) (m : Known) (Ls Ls' : List PyData) : Prop where
  l1 : Ls.length = i
  l2 : Ls'.length = i
  ly : ∀ x ∈ Ls', LayD 14 x
  go : ∀ {Rs Rs' : List PyData} {Cs : List (Int × Known)}, Chain k lo b i m Rs Rs' Cs → ∃ Bs, Chain k lo b 0 [] (Ls ++ Rs) (Ls' ++ Rs') Bs
theorem Pre.nil : Pre k lo b 0 [] [] [] := ⟨rfl, rfl, fun _ h => (by cases h), fun r => ⟨_, r⟩⟩
theorem Pre.snoc {i : Nat} {q q' : Known} {Ls Ls' xs xs' : List PyData} {t t' : PyData} (p : Pre k lo b i q Ls Ls') (K : isKind k lo b) (r : SRs k lo b q xs xs' q') (r2 : TR q' t t' (some ((i + 1 : Nat) : Int))) (hl : q.length + xs.length ≤ 800) (ht : LayD 12 t') :
    Pre k lo b (i + 1) q' (Ls ++ [.list [.list xs, t]]) (Ls' ++ [.list [.list xs', t']]) := by
  refine ⟨by simp [p.l1], by simp [p.l2], fun x hx => ?_, fun {Rs Rs' Cs} c => ?_⟩
  · rcases List.mem_append.mp hx with hx | hx
    · exact p.ly x hx
    · simp only [List.mem_cons, List.not_mem_nil, or_false] at hx
      subst hx
      exact LayD.blk K r ht
  · have := r.len
    obtain ⟨Bs, c'⟩ := p.go (.step r r2 hl (by omega) c)
    refine ⟨Bs, ?_⟩
    rw [List.append_assoc, List.append_assoc]
    exact c'
structure Inv (k : Str) (lo : Int) (b : Nat) (j : Nat) (v : Int) (Bl Du rows dues : List PyData) : Prop where
  p : ∃ m m1, Pre k lo b (2 * j) m Bl Du ∧ SRs k lo b m rows dues m1 ∧ findI 1 m1 = some (.int v) ∧ Keys m1 ∧ m.length ≤ 8 * j
  l : rows.length ≤ 3
theorem More.len {lo : Int} {more told : List PyData} (hm : More k lo b v more told) : more.length ≤ 1 := by cases hm <;> simp
theorem More.srs {m : Known} {more told : List PyData} (hm : More k lo b v more told) (h1 : findI 1 m = some (.int v)) (hk : Keys m) : ∃ m', SRs k lo b m more told m' ∧ findI 1 m' = some (.int v) ∧ Keys m' := by
  have key : ∀ (i : Int) (x : PyData), i ≠ 1 → findI 1 (putI i x (dropI i m)) = some (.int v) ∧ Keys (putI i x (dropI i m)) := fun i x hi => by
    refine ⟨?_, hk.drop.put⟩
    rw [find_put, if_neg hi.symm, find_drop hk, if_neg hi.symm, h1]
  cases hm with
  | none => exact ⟨m, .nil _, h1, hk⟩
  | cast => exact ⟨_, .cons (.cast v m h1) (.nil _), key 4 _ (by decide)⟩
  | flip => exact ⟨_, .cons (.un "!" v m h1 (.inl rfl)) (.nil _), key 0 _ (by decide)⟩
  | neg => exact ⟨_, .cons (.un "-" v m h1 (.inr rfl)) (.nil _), key 0 _ (by decide)⟩
  | cmp op hop =>
    have c := SR.cmp (k := k) (lo := lo) (b := b) op v m h1 hop
    rw [← cmp_rel hop] at c
    exact ⟨_, .cons c (.nil _), key 3 _ (by decide)⟩
theorem isN_true {op : Str} {o : Int} (h : isN op o = true) : (op = "/" ∨ op = "%") ∧ o = 0 := by
  unfold isN at h
  simpa using h
theorem isN_false {op : Str} {o : Int} (h : isN op o = false) : o ≠ 0 ∨ (op ≠ "/" ∧ op ≠ "%") := by
  unfold isN at h
  by_cases h0 : o = 0
  · right
    simpa [h0] using h
  · exact .inl h0
/-- the first block of a turn -/
theorem inv_one {m m1 : Known} {o : Int} (K : isKind k lo b) (p : Pre k lo b (2 * j) m Bl Du) (r : SRs k lo b m rows dues m1) (h1 : findI 1 m1 = some (.int v)) (hk : Keys m1) (hm : m.length ≤ 8 * j) (hl : rows.length ≤ 3) (hj : j ≤ 6) :
    ∃ m2, Pre k lo b (2 * j + 1) m2 (Bl ++ [.list [.list (rows ++ [sEq k o]), tAs opC3 "none" ((Bl.length : Int) + 1)]]) (Du ++ [.list [.list (dues ++ [sAsg 3 (rUse (cB (decide (o = 0))))]), endN o ((Bl.length : Int) + 1)]]) ∧ findI 1 m2 = some (.int v) ∧ Keys m2 ∧ m2.length ≤ 8 * j + 4 := by
  let m2 : Known := putI 3 (.bool (decide (o = 0))) (dropI 3 m1)
  have r2 : SRs k lo b m (rows ++ [sEq k o]) (dues ++ [sAsg 3 (rUse (cB (decide (o = 0))))]) m2 := r.app (.cons (.eq0 o m1) (.nil _))
  have f1 : findI 1 m2 = some (.int v) := by
    show findI 1 (putI _ _ _) = _
    rw [find_put, if_neg (by decide), find_drop hk, if_neg (by decide), h1]
  have f3 : findI 3 m2 = some (.bool (decide (o = 0))) := by
    show findI 3 (putI _ _ _) = _
    rw [find_put, if_pos rfl]
  have ln := r2.len
  have ll : (rows ++ [sEq k o]).length ≤ 4 := by simp; omega
  have hg : (Bl.length : Int) + 1 = ((2 * j + 1 : Nat) : Int) := by rw [p.l1]; rfl
  have t1 : TR m2 (tAs opC3 "none" ((Bl.length : Int) + 1)) (endN o ((Bl.length : Int) + 1)) (some ((2 * j + 1 : Nat) : Int)) := by
    have := TR.a3 (m := m2) (decide (o = 0)) "none" ((2 * j + 1 : Nat) : Int) f3
    rw [hg]
    unfold endN
    by_cases h0 : o = 0
    · simpa [h0] using this
    · simpa [h0] using this
  have t2 : LayD 12 (endN o ((Bl.length : Int) + 1)) := by
    unfold endN
    split
    · exact LayD.tAsB sok40
    · exact LayD.tGo _
  exact ⟨m2, p.snoc K r2 t1 (by omega) t2, f1, hk.drop.put, by omega⟩
/-- the second block, where it is not by nought -/
theorem inv_two {m2 : Known} {o : Int} {op : Str} {Bl Du : List PyData} (K : isKind k lo b) (p : Pre k lo b (2 * j + 1) m2 Bl Du) (h1 : findI 1 m2 = some (.int v)) (hk : Keys m2) (hm : m2.length ≤ 8 * j + 4) (hj : j ≤ 6) (hop : isOp op) (hs : small o = true) (ho : o ≠ 0 ∨ (op ≠ "/" ∧ op ≠ "%")) :
    ∃ m3, Pre k lo b (2 * (j + 1)) m3 (Bl ++ [.list [.list [sChk k op opX o], tAs opC2 "over" ((Bl.length : Int) + 1)]]) (Du ++ [.list [.list [sChk k op (cI k v) o], endO (overS op lo b v o) ((Bl.length : Int) + 1)]]) ∧
      (∃ w, findI 2 m3 = some (.tuple [.int (wrapS lo b (wholeS op b v o)), w])) ∧ Keys m3 ∧ m3.length ≤ 8 * (j + 1) := by
  let m3 : Known := putI 2 (.tuple [.int (wrapS lo b (wholeS op b v o)), .bool (overS op lo b v o)]) (dropI 2 m2)
  have r2 : SRs k lo b m2 [sChk k op opX o] [sChk k op (cI k v) o] m3 := .cons (.chk op o v m2 h1 hop hs ho) (.nil _)
  have f2 : findI 2 m3 = some (.tuple [.int (wrapS lo b (wholeS op b v o)), .bool (overS op lo b v o)]) := by
    show findI 2 (putI _ _ _) = _
    rw [find_put, if_pos rfl]
  have ln := r2.len
  simp only [List.length_singleton] at ln
  have hg : (Bl.length : Int) + 1 = ((2 * j + 1 + 1 : Nat) : Int) := by rw [p.l1]; rfl
  have t1 : TR m3 (tAs opC2 "over" ((Bl.length : Int) + 1)) (endO (overS op lo b v o) ((Bl.length : Int) + 1)) (some ((2 * j + 1 + 1 : Nat) : Int)) := by
    rw [hg]
    exact TR.a2 _ _ "over" _ f2
  have t2 : LayD 12 (endO (overS op lo b v o) ((Bl.length : Int) + 1)) := by
    unfold endO
    split
    · exact LayD.tAsB sok41
    · exact LayD.tGo _
  exact ⟨m3, p.snoc K r2 t1 (by simp; omega) t2, ⟨_, f2⟩, hk.drop.put, by omega⟩
/-- the second block, by nought -/
theorem inv_zero {m2 : Known} {op : Str} {Bl Du : List PyData} (K : isKind k lo b) (p : Pre k lo b (2 * j + 1) m2 Bl Du) (h1 : findI 1 m2 = some (.int v)) (hk : Keys m2) (hm : m2.length ≤ 8 * j + 4) (hj : j ≤ 6) (hop : op = "/" ∨ op = "%") :
    ∃ m3, Pre k lo b (2 * (j + 1)) m3 (Bl ++ [.list [.list [sChk k op opX 0], tAs opC2 "over" ((Bl.length : Int) + 1)]]) (Du ++ [.list [.list [sChk k op (cI k v) 0], tAs opC2 "over" ((Bl.length : Int) + 1)]]) ∧ m3.length ≤ 8 * (j + 1) := by
  let m3 : Known := dropI 2 m2
  have r2 : SRs k lo b m2 [sChk k op opX 0] [sChk k op (cI k v) 0] m3 := .cons (.chkz op v m2 h1 hop) (.nil _)
  have f2 : findI 2 m3 = none := by
    show findI 2 (dropI _ _) = _
    rw [find_drop hk, if_pos rfl]
  have ln := r2.len
  simp only [List.length_singleton] at ln
  have hg : (Bl.length : Int) + 1 = ((2 * j + 1 + 1 : Nat) : Int) := by rw [p.l1]; rfl
  have t1 : TR m3 (tAs opC2 "over" ((Bl.length : Int) + 1)) (tAs opC2 "over" ((Bl.length : Int) + 1)) (some ((2 * j + 1 + 1 : Nat) : Int)) := by
    rw [hg]
    exact TR.a2n "over" _ f2
  exact ⟨m3, p.snoc K r2 t1 (by simp; omega) (LayD.tAs2 sok41), by omega⟩
/-- what is pending behind the second block -/
theorem inv_next {m3 : Known} {w : PyData} {more told : List PyData} (K : isKind k lo b) (p : Pre k lo b (2 * (j + 1)) m3 Bl Du) (h2 : findI 2 m3 = some (.tuple [.int v, w])) (hk : Keys m3) (hm : m3.length ≤ 8 * (j + 1)) (r : More k lo b v more told) :
    Inv k lo b (j + 1) v Bl Du ([sAsg 1 (rUse opM2), sPrint opX] ++ more) ([sAsg 1 (rUse (cI k v)), sPrint (cI k v)] ++ told) := by
  let m4 : Known := putI 1 (.int v) (dropI 1 m3)
  have f1 : findI 1 m4 = some (.int v) := by
    show findI 1 (putI _ _ _) = _
    rw [find_put, if_pos rfl]
  obtain ⟨m5, r5, f5, k5⟩ := r.srs f1 hk.drop.put
  have := r.len
  exact ⟨⟨m3, m5, p, .cons (.mov v w m3 h2) (.cons (.prt v m4 f1) r5), f5, k5, hm⟩, by simp; omega⟩
end Mine
end
section
open PySem PySem.W
set_option maxRecDepth 100000
set_option linter.unusedSimpArgs false
set_option linter.unusedVariables false
set_option linter.unusedSectionVars false
namespace Mine
variable {P : Params} {n : Nat} {h : List O} {k : Str} {lo : Int} {b : Nat} {s bo bl du : Nat} {Bl Du rows dues : List PyData} {v : Int} {j : Nat}
def RhoIs (s bo du : Nat) (k : Str) (v : Int) (rows dues : List PyData) (r : List (Option V)) : Prop :=
  ∃ x11 x12 x13 x14 x15 x16 x17 x18 x19 x20 x21 x22 x23, r = rho s bo du k v rows dues x11 x12 x13 x14 x15 x16 x17 x18 x19 x20 x21 x22 x23 none12
theorem row_B2z {v o : Int} {op : Str} {rows dues : List PyData} {b0 : Nat} {x11 x14 x15 x16 x17 x18 x19 x20 x21 x22 x23 : Option V} {rest : List (Option V)} {z : Bool} (hop : isOp op) (hz : isN op o = z) : exs (R (TT P) (n + 100)) sgB2 ⟨b0, h, rho s bo du k v rows dues x11 (some (.d (.str op))) (some (.d (.int o))) x14 x15 x16 x17 x18 x19 x20 x21 x22 x23 rest⟩ =
      some (.next, ⟨b0, h, rho s bo du k v rows dues x11 (some (.d (.str op))) (some (.d (.int o))) x14 (some (.d (.bool z))) x16 x17 x18 x19 x20 x21 x22 x23 rest⟩) := by
  subst hz; exact row_B2 hop
def rowBody : List S := sgA ++ (sgB ++ (sgB2 ++ (sgC ++ (sgD ++ (sgE ++ (sgF ++ (sgG ++ (sgH ++ (sgI ++ sgJ)))))))))
theorem row_turn (K : isKind k lo b) (w : Row h s bo bl du k Bl Du) (I : Inv k lo b j v Bl Du rows dues) (hj : j < 6) :
    (∃ h' Bl' Du', Row h' s bo bl du k Bl' Du' ∧ h'.length = h.length ∧ ∀ n b0 r, RhoIs s bo du k v rows dues r → ∃ r', exs (R (TT P) (n + 270)) rowBody ⟨b0, h, r⟩ = some (.ret (.d (.bool true)), ⟨b0, h', r'⟩)) ∨
    (∃ h' v' Bl' Du' rows' dues', Row h' s bo bl du k Bl' Du' ∧ Inv k lo b (j + 1) v' Bl' Du' rows' dues' ∧ h'.length = h.length ∧
      ∀ n b0 r, RhoIs s bo du k v rows dues r → ∃ r', RhoIs s bo du k v' rows' dues' r' ∧ exs (R (TT P) (n + 270)) rowBody ⟨b0, h, r⟩ = some (.next, ⟨b0, h', r'⟩)) := by
  obtain ⟨⟨m, m1, p, r1, f1, hk, hm⟩, hl⟩ := I
  obtain ⟨op, o, hA, hop, so, wA, lA, eA⟩ := row_A (P := P) w K
  obtain ⟨m2, p2, f2, k2, q2⟩ := inv_one (o := o) K p r1 f1 hk hm hl (by omega)
  have hB := p.l1
  have hD := p.l2
  have rl := r1.len.1
  let g : Int := (Bl.length : Int) + 1
  let Bl1 := Bl ++ [.list [.list (rows ++ [sEq k o]), tAs opC3 "none" g]]
  let Du1 := Du ++ [.list [.list (dues ++ [sAsg 3 (rUse (cB (decide (o = 0))))]), endN o g]]
  have wC : Row _ s bo bl du k Bl1 Du := wA.setBl Bl1
  have wD : Row _ s bo bl du k Bl1 Du1 := wC.setDu Du1
  have lB1 : Bl1.length = Bl.length + 1 := by simp [Bl1]
  have lD1 : Du1.length = Du.length + 1 := by simp [Du1]
  have hg : (Bl1.length : Int) + 1 = g + 1 := by rw [lB1]; rfl
  let Bl2 := Bl1 ++ [.list [.list [sChk k op opX o], tAs opC2 "over" (g + 1)]]
  have wF : Row _ s bo bl du k Bl2 Du1 := wD.setBl Bl2
  cases hN : isN op o with
  | true =>
    obtain ⟨hop2, ho⟩ := isN_true hN
    subst ho
    obtain ⟨m3, p3, q3⟩ := inv_zero (op := op) K p2 f2 k2 q2 (by omega) hop2
    have p3' : Pre k lo b (2 * (j + 1)) m3 Bl2 (Du1 ++ [.list [.list [sChk k op (cI k v) 0], tAs opC2 "over" (g + 1)]]) := by
      show Pre k lo b (2 * (j + 1)) m3 (Bl1 ++ [.list [.list [sChk k op opX 0], tAs opC2 "over" (g + 1)]]) (Du1 ++ [.list [.list [sChk k op (cI k v) 0], tAs opC2 "over" (g + 1)]])
      rw [← hg]; exact p3
    obtain ⟨Bs, ch⟩ := p3'.go (.last (.nil _) (by simp; omega))
    have e := fun n => c482b (P := P) (n := n) (v := v) K ch wF.bod wF.blk wF.ok (by simp [Bl2]; omega) (by simp) (List.take_left (l₁ := Du1 ++ [.list [.list [sChk k op (cI k v) 0], tAs opC2 "over" (g + 1)]])) (fun x hx => by
      rcases List.mem_append.mp hx with hx | hx
      · exact p3'.ly x hx
      · simp only [List.mem_cons, List.not_mem_nil, or_false] at hx
        subst hx
        exact LayD.blk (m := []) K (.nil _) LayD.tRet) rfl rfl
    refine .inl ⟨_, _, _, wF.setBl (Bl2 ++ [.list [.list [], tRet]]), by simp only [List.length_set]; exact lA, fun n b0 r hr => ?_⟩
    obtain ⟨x11, x12, x13, x14, x15, x16, x17, x18, x19, x20, x21, x22, x23, rfl⟩ := hr
    exact ⟨_, (exs_app (eA (n + 170) _ _ _ _ _ _ _ _ _ _ _ _ _ _ _ _ _ _)).trans
      ((exs_app (row_B (n := n + 170) (by omega))).trans
      ((exs_app (row_B2z (n := n + 170) hop hN)).trans
      ((exs_app (row_C (n := n + 170) wA (by omega) (by omega))).trans
      ((exs_app (row_D (n := n + 170) wC (by omega))).trans
      ((exs_app (row_E (n := n + 170) (fun n => c442z K hop2))).trans
      ((exs_app (row_F (n := n + 170) wD (by omega))).trans
      (exs_ret (row_G1 (n := n) wF (by omega) (by omega) e))))))))⟩
  | false =>
    have ho := isN_false hN
    obtain ⟨m3, p3, ⟨w3, f3⟩, k3, q3⟩ := inv_two K p2 f2 k2 q2 (by omega) hop so ho
    let Du2 := Du1 ++ [.list [.list [sChk k op (cI k v) o], endO (overS op lo b v o) (g + 1)]]
    have p3' : Pre k lo b (2 * (j + 1)) m3 Bl2 Du2 := by
      show Pre k lo b (2 * (j + 1)) m3 (Bl1 ++ [.list [.list [sChk k op opX o], tAs opC2 "over" (g + 1)]]) (Du1 ++ [.list [.list [sChk k op (cI k v) o], endO (overS op lo b v o) (g + 1)]])
      rw [← hg]; exact p3
    have wH : Row _ s bo bl du k Bl2 Du2 := wF.setDu Du2
    obtain ⟨more, told, hJ, y22, y23, hm', wJ, lJ, eJ⟩ := row_J (P := P) (v := wrapS lo b (wholeS op b v o)) (rows := [sAsg 1 (rUse opM2), sPrint opX]) (dues := [sAsg 1 (rUse (cI k (wrapS lo b (wholeS op b v o)))), sPrint (cI k (wrapS lo b (wholeS op b v o)))]) wH K (by simp) (by simp)
    refine .inr ⟨hJ, _, _, _, _, _, wJ, inv_next K p3' f3 k3 q3 hm', by rw [lJ]; simp only [List.length_set]; exact lA, fun n b0 r hr => ?_⟩
    obtain ⟨x11, x12, x13, x14, x15, x16, x17, x18, x19, x20, x21, x22, x23, rfl⟩ := hr
    exact ⟨_, ⟨_, _, _, _, _, _, _, _, _, _, _, _, _, rfl⟩, (exs_app (eA (n + 170) _ _ _ _ _ _ _ _ _ _ _ _ _ _ _ _ _ _)).trans
      ((exs_app (row_B (n := n + 170) (by omega))).trans
      ((exs_app (row_B2z (n := n + 170) hop hN)).trans
      ((exs_app (row_C (n := n + 170) wA (by omega) (by omega))).trans
      ((exs_app (row_D (n := n + 170) wC (by omega))).trans
      ((exs_app (row_E (n := n + 170) (fun n => c442 K hop so ho))).trans
      ((exs_app (row_F (n := n + 170) wD (by omega))).trans
      ((exs_app (row_G0 (n := n + 170))).trans
      ((exs_app (row_H (n := n + 170) wF K hop (by omega))).trans
      ((exs_app (row_I (n := n + 170) K)).trans
      (eJ (n + 170) _ _ _ _ _ _ _ _ _ _ _ _ _ _ _))))))))))⟩
end Mine
end
section
open PySem PySem.W
set_option maxRecDepth 100000
set_option linter.unusedSimpArgs false
set_option linter.unusedVariables false
set_option linter.unusedSectionVars false
namespace Mine
variable {P : Params} {n : Nat} {k : Str} {lo : Int} {b : Nat} {s bo bl du : Nat}
theorem RhoIs.set {v : Int} {rows dues : List PyData} {r : List (Option V)} (hr : RhoIs s bo du k v rows dues r) (x : Option V) : RhoIs s bo du k v rows dues (r.set 11 x) := by
  obtain ⟨x11, x12, x13, x14, x15, x16, x17, x18, x19, x20, x21, x22, x23, rfl⟩ := hr
  exact ⟨_, _, _, _, _, _, _, _, _, _, _, _, _, rfl⟩
theorem row_loop (K : isKind k lo b) {N : Nat} : ∀ (cnt j : Nat) {h : List O} {v : Int} {Bl Du rows dues : List PyData} {r : List (Option V)} {b0 : Nat}, j + cnt ≤ 6 → Row h s bo bl du k Bl Du → Inv k lo b j v Bl Du rows dues → RhoIs s bo du k v rows dues r → h.length = N →
    (∃ st' Bl' Du', forRL (R (TT P) (n + 270)) N 11 rowBody j cnt ⟨b0, h, r⟩ = some (.ret (.d (.bool true)), st') ∧ Row st'.h s bo bl du k Bl' Du' ∧ st'.h.length = N) ∨
    (∃ b1 h' r' v' Bl' Du' rows' dues', forRL (R (TT P) (n + 270)) N 11 rowBody j cnt ⟨b0, h, r⟩ = some (.next, ⟨b1, h', r'⟩) ∧ Row h' s bo bl du k Bl' Du' ∧ Inv k lo b (j + cnt) v' Bl' Du' rows' dues' ∧ RhoIs s bo du k v' rows' dues' r' ∧ h'.length = N)
  | 0, j, h, v, Bl, Du, rows, dues, r, b0, hj, w, I, hr, hN => .inr ⟨b0, h, r, v, Bl, Du, rows, dues, by unfold forRL; rfl, w, I, hr, hN⟩
  | cnt + 1, j, h, v, Bl, Du, rows, dues, r, b0, hj, w, I, hr, hN => by
    rcases row_turn (P := P) K w I (by omega) with ⟨h', Bl', Du', w', l', e⟩ | ⟨h', v', Bl', Du', rows', dues', w', I', l', e⟩
    · obtain ⟨r', e'⟩ := e n N _ (hr.set (some (bI j)))
      refine .inl ⟨⟨N, h', r'⟩, Bl', Du', ?_, w', by rw [← hN]; exact l'⟩
      unfold forRL
      rw [e']
    · obtain ⟨r', hr', e'⟩ := e n N _ (hr.set (some (bI j)))
      have lN : h'.length = N := by rw [← hN]; exact l'
      have ct : cutTo N ⟨N, h', r'⟩ = ⟨N, h', r'⟩ := by
        unfold cutTo
        have : Nat.ble h'.length N = true := Nat.ble_eq.mpr (by omega)
        show (if Nat.ble h'.length N = true then _ else _) = _
        rw [if_pos this]
      have un : forRL (R (TT P) (n + 270)) N 11 rowBody j (cnt + 1) ⟨b0, h, r⟩ = forRL (R (TT P) (n + 270)) N 11 rowBody (j + 1) cnt ⟨N, h', r'⟩ := by
        conv => lhs; unfold forRL
        rw [e']
        show forRL (R (TT P) (n + 270)) N 11 rowBody (j + 1) cnt (cutTo N ⟨N, h', r'⟩) = _
        rw [ct]
      rw [un]
      have z : j + (cnt + 1) = j + 1 + cnt := by omega
      rw [z]
      exact row_loop K cnt (j + 1) (by omega) w' I' hr' lN
def rowTail : List S := [(.ret (.callF 482 [(.var 5), (.bin .Add (.var 9) (.lst false [(.lst false [(.var 10), (.tup [(.lit (.str "return"))])])])), (.lit .none), (.var 8)]))]
theorem row_tail {h : List O} {v : Int} {j : Nat} {Bl Du rows dues : List PyData} {r : List (Option V)} {b0 : Nat} (K : isKind k lo b) (w : Row h s bo bl du k Bl Du) (I : Inv k lo b j v Bl Du rows dues) (hr : RhoIs s bo du k v rows dues r) (hj : j ≤ 6) :
    ∃ h' Bl' Du' r', exs (R (TT P) (n + 270)) rowTail ⟨b0, h, r⟩ = some (.ret (.d (.bool true)), ⟨b0, h', r'⟩) ∧ Row h' s bo bl du k Bl' Du' ∧ h'.length = h.length := by
  obtain ⟨⟨m, m1, p, r1, f1, hk, hm⟩, hl⟩ := I
  obtain ⟨x11, x12, x13, x14, x15, x16, x17, x18, x19, x20, x21, x22, x23, rfl⟩ := hr
  have hB := p.l1
  have hD := p.l2
  obtain ⟨Bs, ch⟩ := p.go (.last r1 (by omega))
  have e := fun n => c482a (P := P) (n := n) K ch w.bod w.blk w.ok (by omega) (by omega) (List.take_length (l := Du ++ [.list [.list dues, tRet]])) (fun x hx => by
      rcases List.mem_append.mp hx with hx | hx
      · exact p.ly x hx
      · simp only [List.mem_cons, List.not_mem_nil, or_false] at hx
        subst hx
        exact LayD.blk K r1 LayD.tRet)
  refine ⟨_, _, _, rho s bo du k v rows dues x11 x12 x13 x14 x15 x16 x17 x18 x19 x20 x21 x22 x23 none12, ?_, w.setBl (Bl ++ [.list [.list rows, tRet]]), List.length_set⟩
  have a3 := w.due
  have q3 : Du.length ≤ 1000000 := by omega
  simp (config := { decide := true }) [rowTail, rho, a3, q3, e, run, bindArgs, pick, exs, R_ex, R_ev, stepEx, stepEv, evs, evp, bopV, ifsAll, tst, tstN, tstA, srcOf, nextS, bindT, bindU, parts, initR, back, subV, attrV, findS, atL, idx0, idx1, idx2, idx3, idx4, idxm, short, lim, methB, mkind, sameKind, V.und, undL, truthy, isNone, bB, bI, binV, rd, cmpV, eqV, inV, natOf2, natOf3, natOf5, slcV, optNat, mkTup, allD, mkList, setS, setA, small, callB, anyEq, deq, deqs, intEq_dec, strEq_dec, sok0, sok1, sok2, sok3, sok4, sok5, sok6, sok7, sok8, sok9, sok10, sok11, sok12, sok13, sok14, sok15, sok16, sok17, sok18, sok19, sok20, sok21, sok22, sok23, sok24, sok25, sok26, sok27, sok28, sok29, sok30, sok31, sok32, sok33, sok34, sok35, sok36, sok37, sok38, sok39, sok40, sok41, sok42, sok43, sok44, sok45, sok46, sok47, sok48, sok49, sok50, lay, PyData.canLay0, PyData.canLayAll0, PyData.depth, PyData.depthAll, mkDict, dspS, dspI, dspII, putS, ite_self]
def turnsE : E := .bin .Add (.lit (.int (1))) (.callF 428 [(.var 0), (.lit (.int (6)))])
theorem fn_468_body : fn_468.body = rowHead ++ (.forR 11 turnsE rowBody :: rowTail) := rfl
theorem natOf_turns (m : Nat) (hm : m ≤ 100) : natOf (.d (.int (1 + (m : Int)))) = some (1 + m) := by
  have : (1 + (m : Int)) = ((1 + m : Nat) : Int) := by omega
  rw [this, natOf_nat, if_pos]
  exact Nat.ble_eq.mpr (by unfold lim; omega)
abbrev none35 : List (Option V) := [none, none, none, none, none, none, none, none, none, none, none, none, none, none, none, none, none, none, none, none, none, none, none, none, none, none, none, none, none, none, none, none, none, none, none]
theorem row_right {h : List O} {b0 : Nat} (hs : Src h s) (hh : OkH h) : ∃ h' r', exs (R (TT P) (n + 271)) fn_468.body ⟨b0, h, some (.loc s) :: none35⟩ = some (.ret (.d (.bool true)), ⟨b0, h', r'⟩) ∧ Src h' s ∧ OkH h' ∧ h'.length = h.length + 3 := by
  obtain ⟨k, lo, b, v, h1, K, w1, l1, eH⟩ := row_head (P := P) hs hh
  obtain ⟨q, big, mixed, q0, q6, m0, m1, eT⟩ := c428 (P := P) (top := 6) w1.src (by decide) (by decide)
  obtain ⟨m, rfl⟩ := Int.eq_ofNat_of_zero_le q0
  have w2 := w1.setS (big := big) m0 m1
  have I0 : Inv k lo b 0 v [] [] [sAsg 1 (rUse (cI k v))] [sAsg 1 (rUse (cI k v))] := by
    refine ⟨⟨[], _, Pre.nil, .cons (.con v []) (.nil _), ?_, ?_, Nat.zero_le _⟩, by simp⟩
    · rw [find_put, if_pos rfl]
    · exact Keys.put (Keys.drop (by simp [Keys]))
  have ev : (R (TT P) (n + 270)).ev turnsE (rho s h.length (h.length + 2) k v [sAsg 1 (rUse (cI k v))] [sAsg 1 (rUse (cI k v))] none none none none none none none none none none none none none none12) h1 = some (.d (.int (1 + (m : Int))), h1.set s (srcL big mixed)) := by
    have eT' : ∀ n, (R (TT P) (n + 30)).call 428 [V.loc s, V.d (PyData.int 6)] h1 = some (V.d (PyData.int (m : Int)), h1.set s (srcL big mixed)) := eT
    simp (config := { decide := true }) [turnsE, rho, eT', run, bindArgs, pick, exs, R_ex, R_ev, stepEx, stepEv, evs, evp, bopV, ifsAll, tst, tstN, tstA, srcOf, nextS, bindT, bindU, parts, initR, back, subV, attrV, findS, atL, idx0, idx1, idx2, idx3, idx4, idxm, short, lim, methB, mkind, sameKind, V.und, undL, truthy, isNone, bB, bI, binV, rd, cmpV, eqV, inV, natOf2, natOf3, natOf5, slcV, optNat, mkTup, allD, mkList, setS, setA, small, callB, anyEq, deq, deqs, intEq_dec, strEq_dec, sok0, sok1, sok2, sok3, sok4, sok5, sok6, sok7, sok8, sok9, sok10, sok11, sok12, sok13, sok14, sok15, sok16, sok17, sok18, sok19, sok20, sok21, sok22, sok23, sok24, sok25, sok26, sok27, sok28, sok29, sok30, sok31, sok32, sok33, sok34, sok35, sok36, sok37, sok38, sok39, sok40, sok41, sok42, sok43, sok44, sok45, sok46, sok47, sok48, sok49, sok50, lay, PyData.canLay0, PyData.canLayAll0, PyData.depth, PyData.depthAll, mkDict, dspS, dspI, dspII, putS, ite_self]
  have l2 : (h1.set s (srcL big mixed)).length = h.length + 3 := by rw [List.length_set, l1]
  rw [fn_468_body]
  have head := exs_app (ss' := .forR 11 turnsE rowBody :: rowTail) (eH (n + 171) b0)
  have ex : (R (TT P) (n + 271)).ex (.forR 11 turnsE rowBody) ⟨b0, h1, rho s h.length (h.length + 2) k v [sAsg 1 (rUse (cI k v))] [sAsg 1 (rUse (cI k v))] none none none none none none none none none none none none none none12⟩ =
      (match forRL (R (TT P) (n + 270)) (h1.set s (srcL big mixed)).length 11 rowBody 0 (1 + m) ⟨b0, h1.set s (srcL big mixed), rho s h.length (h.length + 2) k v [sAsg 1 (rUse (cI k v))] [sAsg 1 (rUse (cI k v))] none none none none none none none none none none none none none none12⟩ with
        | some (fl, st') => some (fl, ⟨b0, st'.h, st'.r⟩)
        | none => none) := by
    rw [show n + 271 = (n + 270) + 1 from rfl, R_ex]
    unfold stepEx
    dsimp only
    rw [ev]
    dsimp only
    rw [natOf_turns m (by omega)]
    try rfl
  rcases row_loop (P := P) (n := n) K (N := (h1.set s (srcL big mixed)).length) (1 + m) 0 (b0 := b0) (by omega) w2 I0 ⟨none, none, none, none, none, none, none, none, none, none, none, none, none, rfl⟩ rfl with ⟨st', Bl', Du', e, w', l'⟩ | ⟨b1, h', r', v', Bl', Du', rows', dues', e, w', I', hr', l'⟩
  · refine ⟨st'.h, st'.r, head.trans ?_, w'.src, w'.ok, by rw [l', l2]⟩
    rw [e] at ex
    unfold exs
    rw [ex]
  · obtain ⟨h2, Bl2, Du2, r2, e2, w3, l3⟩ := row_tail (P := P) (n := n + 1) (b0 := b0) K w' I' hr' (by omega)
    refine ⟨h2, r2, head.trans ?_, w3.src, w3.ok, by rw [l3, l', l2]⟩
    rw [e] at ex
    unfold exs
    rw [ex]
    exact e2
theorem c468 {big mixed : Int} (m0 : 0 ≤ mixed) (m1 : mixed < 2147483647) : ∃ big' mixed', (R (TT P) (n + 272)).call 468 [.loc 0] [srcL big mixed] = some (.d (.bool true), [srcL big' mixed']) := by
  have hs : Src [srcL big mixed] 0 := ⟨big, mixed, rfl, m0, m1⟩
  obtain ⟨h', r', e, ⟨big', mixed', s', _, _⟩, o', l'⟩ := row_right (P := P) (n := n) (b0 := 1) hs rfl
  refine ⟨big', mixed', ?_⟩
  rw [R_call _ _ _ _ _ (at_468 P)]
  have ba : bindArgs fn_468 [.loc 0] = some (some (.loc 0) :: none35) := rfl
  unfold run
  rw [ba]
  dsimp only
  rw [show [srcL big mixed].length = 1 from rfl, e]
  cases h' with
  | nil => cases s'
  | cons x t =>
    cases s'
    rfl
end Mine
end
section
open PySem PySem.W
set_option maxRecDepth 100000
set_option linter.unusedSimpArgs false
set_option linter.unusedVariables false
set_option linter.unusedSectionVars false
namespace Mine
variable {P : Params}
theorem c487 {a b : Int} : (R (TT P) 337).call 487 [] [srcL a b] = some (.d (.bool true), [srcL a b]) := by kernel_rfl
theorem c494 {a b : Int} : (R (TT P) 337).call 494 [] [srcL a b] = some (.d (.bool true), [srcL a b]) := by kernel_rfl
theorem law_body (P : Params) : [lawStmt].map (cS 60 (lawCE P)) = fn_501.body := by kernel_rfl
theorem runs : Runs := by
  intro P ns hns
  obtain ⟨a, c, m0, m1, e1⟩ := c421 (P := P) hns
  obtain ⟨a', c', e2⟩ := c468 (P := P) (n := 65) (big := a) m0 m1
  have e1' : (R (TT P) 336).call 421 [.d (.list (ns.map .int)), .d (.list [])] [] = some (.loc 0, [srcL a c]) := e1 306
  have e3 := c487 (P := P) (a := a') (b := c')
  have e4 := c494 (P := P) (a := a') (b := c')
  rw [law_body]
  refine ⟨⟨0, [srcL a' c'], [some (.d (.list (ns.map .int))), none, none, none, none]⟩, ?_⟩
  simp (config := { decide := true }) [fn_501, bopV, e1', e2, e3, e4, run, bindArgs, pick, exs, R_ex, R_ev, stepEx, stepEv, evs, evp, bopV, ifsAll, tst, tstN, tstA, srcOf, nextS, bindT, bindU, parts, initR, back, subV, attrV, findS, atL, idx0, idx1, idx2, idx3, idx4, idxm, short, lim, methB, mkind, sameKind, V.und, undL, truthy, isNone, bB, bI, binV, rd, cmpV, eqV, inV, natOf2, natOf3, natOf5, slcV, optNat, mkTup, allD, mkList, setS, setA, small, callB, anyEq, deq, deqs, intEq_dec, strEq_dec, sok0, sok1, sok2, sok3, sok4, sok5, sok6, sok7, sok8, sok9, sok10, sok11, sok12, sok13, sok14, sok15, sok16, sok17, sok18, sok19, sok20, sok21, sok22, sok23, sok24, sok25, sok26, sok27, sok28, sok29, sok30, sok31, sok32, sok33, sok34, sok35, sok36, sok37, sok38, sok39, sok40, sok41, sok42, sok43, sok44, sok45, sok46, sok47, sok48, sok49, sok50, lay, PyData.canLay0, PyData.canLayAll0, PyData.depth, PyData.depthAll, mkDict, dspS, dspI, dspII, putS, ite_self]
end Mine
end
theorem PySem.Challenge.cw_ot0035_01_holds : PySem.Challenge.rw_ot0035_01.Holds := by
  exact Mine.close Mine.runs
