import PyProof.Rows.All
import Wide.All
import OpenK.AllK
import Wide.FinOn
import HandS.ForMost
import HandS.Exc
import HandS.TryOnly
import HandS.ExcOwn
import HandS.WordsExc
import HandS.Wide
import HandS.WideBits
import HandS.Deep
import HandS.TupAny
import HandS.IsInst
import KE.KBits
import PySem.Challenge.RW_sameruns_k02_bits
set_option Elab.async false
set_option linter.all false
set_option maxRecDepth 100000
set_option maxHeartbeats 4000000
namespace Pv
open PySem (Str Operator CmpOp)

/-! ## data -/
/-- a value as a tree; lists and dicts within are values that never change; loc: an object of the store -/
inductive D where
  | none | bool (b : Bool) | int (i : Int) | str (s : Str)
  | tup (xs : List D) | lst (xs : List D) | dic (kvs : List (D × D))
  | loc (n : Nat) | ty (n : String)
  deriving Inhabited

/-- what a slot holds: undefined, a value, an own list or dict (no one else knows it) -/
inductive Sl where
  | un | fr (d : D) | ow (d : D)
  deriving Inhabited
abbrev En := List Sl
/-- objects of the store: lists and dicts (D.lst, D.dic at the top) -/
abbrev Sto := List D

mutual
/-- no list, dict, or store object within -/
def D.imm : D → Bool
  | .none | .bool _ | .int _ | .str _ | .ty _ => true
  | .tup xs => immL xs
  | .lst _ | .dic _ | .loc _ => false
def immL : List D → Bool
  | [] => true
  | x :: xs => x.imm && immL xs
end
mutual
/-- no store object within -/
def D.nol : D → Bool
  | .none | .bool _ | .int _ | .str _ | .ty _ => true
  | .tup xs | .lst xs => nolL xs
  | .dic kvs => nolK kvs
  | .loc _ => false
def nolL : List D → Bool
  | [] => true
  | x :: xs => x.nol && nolL xs
def nolK : List (D × D) → Bool
  | [] => true
  | (a, b) :: xs => a.nol && b.nol && nolK xs
end
mutual
/-- data that == compares, k levels at most -/
def D.fine : Nat → D → Bool
  | _, .none | _, .bool _ | _, .int _ => true
  | _, .str x => x.cps.all (· < 0x110000)
  | k + 1, .tup xs | k + 1, .lst xs => fineL k xs
  | _, _ => false
def fineL : Nat → List D → Bool
  | _, [] => true
  | k, x :: xs => x.fine k && fineL k xs
end
mutual
/-- Python's == -/
def D.eqv : D → D → Bool
  | .none, .none => true
  | .bool a, .bool b => a == b
  | .bool a, .int j => (if a then 1 else 0) == j
  | .int i, .bool b => i == (if b then 1 else 0)
  | .int i, .int j => decide (i = j)
  | .str x, .str y => decide (x = y)
  | .tup xs, .tup ys => eqvL xs ys
  | .lst xs, .lst ys => eqvL xs ys
  | _, _ => false
def eqvL : List D → List D → Bool
  | [], [] => true
  | x :: xs, y :: ys => x.eqv y && eqvL xs ys
  | _, _ => false
end

/-! ## results -/
/-- an exception of the text's own: its class's name, its fields -/
structure Xc where
  c : Str
  fs : List (Str × D)
inductive R (α : Type) where
  | ok (a : α) (e : En) (s : Sto)
  | ex (x : Xc) (e : En) (s : Sto)
  | no
/-- where nothing may be raised -/
def R.nox {α : Type} : R α → R α
  | .ok a e s => .ok a e s
  | _ => .no
@[simp] theorem R.nox_ok {α : Type} (a : α) (e : En) (s : Sto) : (R.ok a e s).nox = .ok a e s := (rfl)
@[simp] theorem R.nox_ex {α : Type} (x : Xc) (e : En) (s : Sto) : (R.ex x e s : R α).nox = .no := (rfl)
@[simp] theorem R.nox_no {α : Type} : (R.no : R α).nox = .no := (rfl)
def R.bind {α β : Type} (r : R α) (f : α → En → Sto → R β) : R β :=
  match r with
  | .ok a e s => f a e s
  | .ex x e s => .ex x e s
  | .no => .no
@[simp] theorem R.bind_ok {α β : Type} (a : α) (e : En) (s : Sto) (f : α → En → Sto → R β) : (R.ok a e s).bind f = f a e s := (rfl)
@[simp] theorem R.bind_ex {α β : Type} (x : Xc) (e : En) (s : Sto) (f : α → En → Sto → R β) : (R.ex x e s : R α).bind f = .ex x e s := (rfl)
@[simp] theorem R.bind_no {α β : Type} (f : α → En → Sto → R β) : (R.no : R α).bind f = .no := (rfl)
/-- a value with whether it is new and own -/
abbrev DB := D × Bool
def R.of (o : Option DB) (e : En) (s : Sto) : R DB := match o with
  | some r => .ok r e s
  | none => .no
@[simp] theorem R.of_some (r : DB) (e : En) (s : Sto) : R.of (some r) e s = .ok r e s := (rfl)
@[simp] theorem R.of_none (e : En) (s : Sto) : R.of none e s = .no := (rfl)

/-- the flow behind a statement -/
inductive O where
  | nx | rt (d : D) (own : Bool) | bk | ct
  deriving Inhabited
/-- what a def gives -/
inductive Rv where
  | rt (d : D) (own : Bool) | rx (x : Xc)
abbrev Tab := Str → List D → Sto → Option (Rv × Sto)
abbrev Glb := Str → Option D

/-! ## core terms -/
mutual
inductive E where
  | int (i : Int) | str (s : Str) | bl (b : Bool) | non
  | var (i : Nat) | gl (x : Str)
  | bin (op : Operator) (es : Es) | neg (a : E) | not (a : E)
  | and (es : Es) | or (es : Es) | ite (c a b : E)
  | cmp (op : CmpOp) (es : Es) | chn (o1 o2 : CmpOp) (es : Es) (c : E)
  | tup (es : Es) | lst (l : Bool) (es : Es)
  | call (p : Bool) (f : Str) (es : Es) | blt (f : Str) (es : Es)
  | mth (m : Str) (es : Es) | chv (m : Str) (i : Nat) (es : Es) | cho (m : Str) (o : E) (es : Es)
  | sub (es : Es) | slc (k : Nat) (es : Es) | slb (es : Es) (c : E)
  | comp (l : Bool) (elt : E) (t : T) (it : I) (c : Es) (own : List (Str × Nat))
  | nev
inductive Es where
  | nil | cons (e : E) (es : Es)
inductive I where
  | it (e : E) | rg1 (a : E) | rg2 (a b : E) | rev (e : E) | zip (a b : E) | enu (e : E)
inductive T where
  | nm (i : Nat) | tp (ts : Ts) | sbv (n : Nat) (i : E) | sbo (o i : E)
inductive Ts where
  | nil | cons (t : T) (ts : Ts)
end
mutual
inductive S where
  | exp (e : E) | set (t : T) (e : E) | aug (i : Nat) (op : Operator) (e : E)
  | ifs (c : E) (a b : Ss) | whl (c : E) (b : Ss) | for_ (t : T) (it : I) (b : Ss)
  | ret (e : E) | retN | brk | cnt | pas | nev
inductive Ss where
  | nil | cons (s : S) (ss : Ss)
end

/-! ## operations on data -/
def sizeMax : Nat := 16777216
def wideI : Int := 1267650600228229401496703205376
def litI : Int := 18446744073709551616
def nul (d : D) : Option DB := some (d, false)
def binD (op : Operator) (a b : D) : Option DB :=
  match op, a, b with
  | .Add, .int i, .int j => nul (.int (i + j))
  | .Sub, .int i, .int j => nul (.int (i - j))
  | .Mult, .int i, .int j => if (-litI < i ∧ i < litI) ∨ (-litI < j ∧ j < litI) then nul (.int (i * j)) else none
  | .FloorDiv, .int i, .int j => if 0 < j ∧ j < wideI then nul (.int (i / j)) else none
  | .Mod, .int i, .int j => if 0 < j then nul (.int (i % j)) else none
  | .BitAnd, .int i, .int j => nul (.int (PySem.Builtin.bitAnd i j))
  | .BitOr, .int i, .int j => nul (.int (PySem.Builtin.bitOr i j))
  | .BitXor, .int i, .int j => nul (.int (PySem.Builtin.bitXor i j))
  | .LShift, .int i, .int j => if (0 ≤ j ∧ j ≤ 1000000) ∧ -litI < i ∧ i < litI then nul (.int (i * 2 ^ j.toNat)) else none
  | .RShift, .int i, .int j => if 0 ≤ j then nul (.int (i / 2 ^ j.toNat)) else none
  | .Add, .str x, .str y => if x.length + y.length ≤ sizeMax then nul (.str (x ++ y)) else none
  | .Add, .lst xs, .lst ys => if xs.length + ys.length ≤ sizeMax then some (.lst (xs ++ ys), true) else none
  | .Add, .tup xs, .tup ys => if xs.length + ys.length ≤ sizeMax then nul (.tup (xs ++ ys)) else none
  | _, _, _ => none
/-- the scalars that Python's == takes apart -/
def eqD (a b : D) : Option Bool := if a.fine 64 && b.fine 64 then some (a.eqv b) else none
def memD (x : D) (xs : List D) : Option Bool := if x.fine 64 && fineL 64 xs then some (xs.any fun y => y.eqv x) else none
def lookD (kvs : List (D × D)) (k : D) : Option D := (kvs.find? fun p => p.1.eqv k).map (·.2)
/-- an int or a text: a key -/
def D.key : D → Bool
  | .int _ | .str _ => true
  | _ => false
def inD (x y : D) : Option Bool :=
  match y with
  | .lst xs | .tup xs => memD x xs
  | .dic kvs => if x.key then some (lookD kvs x).isSome else none
  | _ => none
def D.isN : D → Bool
  | .none => true
  | _ => false
def cmpD (op : CmpOp) (a b : D) : Option Bool :=
  match op with
  | .Eq => eqD a b
  | .NotEq => (eqD a b).map (!·)
  | .Lt => match a, b with | .int i, .int j => some (decide (i < j)) | _, _ => none
  | .LtE => match a, b with | .int i, .int j => some (decide (i ≤ j)) | _, _ => none
  | .Gt => match a, b with | .int i, .int j => some (decide (j < i)) | _, _ => none
  | .GtE => match a, b with | .int i, .int j => some (decide (j ≤ i)) | _, _ => none
  | .Is => match b with | .none => some a.isN | _ => none
  | .IsNot => match b with | .none => some (!a.isN) | _ => none
  | .In => inD a b
  | .NotIn => (inD a b).map (!·)
def atD (xs : List D) (i : Int) : Option D := L2.atI xs i
def subD (a i : D) : Option D :=
  match a, i with
  | .tup xs, .int j => atD xs j
  | .lst xs, .int j => atD xs j
  | .str z, .int j => if z.length ≤ sizeMax then (L2.atI z.cps.toList j).map fun c => .str ⟨#[c]⟩ else none
  | .dic kvs, k => if k.key then lookD kvs k else none
  | _, _ => none
def cutL {α : Type} (xs : List α) (lo hi : Option Int) : List α := (xs.drop (HT.sIx xs.length 0 lo)).take (HT.sIx xs.length xs.length hi - HT.sIx xs.length 0 lo)
def slcD (a : D) (lo hi : Option Int) : Option DB :=
  match a with
  | .lst xs => some (.lst (cutL xs lo hi), true)
  | .tup xs => nul (.tup (cutL xs lo hi))
  | .str z => if z.length ≤ sizeMax then nul (.str (L2.cutS z lo hi)) else none
  | _ => none
/-- the type of a value -/
def tyD : D → Option String
  | .none => some "NoneType"
  | .bool _ => some "bool"
  | .int _ => some "int"
  | .str _ => some "str"
  | .tup _ => some "tuple"
  | .lst _ => some "list"
  | _ => none
def typeOK (n : String) (d : D) : Option Bool := (tyD d).bind fun m =>
  if n = "int" then some (m == "int" || m == "bool") else if n = "bool" then some (m == "bool") else if n = "str" then some (m == "str") else if n = "tuple" then some (m == "tuple")
  else if n = "list" then some (m == "list") else none
def maxL : List D → Option Int
  | [.int i] => some i
  | .int i :: r => (maxL r).map fun m => if m < i then i else m
  | _ => none
def bltD (f : Str) (ds : List D) : Option DB :=
  if f = Str.ofString "len" then
    match ds with
    | [.lst xs] | [.tup xs] => nul (.int xs.length)
    | [.str z] => if z.length ≤ sizeMax then nul (.int z.length) else none
    | [.dic kvs] => nul (.int kvs.length)
    | _ => none
  else if f = Str.ofString "abs" then
    match ds with
    | [.int i] => nul (.int (if i < 0 then -i else i))
    | _ => none
  else if f = Str.ofString "int" then
    match ds with
    | [.int i] => nul (.int i)
    | _ => none
  else if f = Str.ofString "list" then
    match ds with
    | [.lst xs] | [.tup xs] => some (.lst xs, true)
    | _ => none
  else if f = Str.ofString "tuple" then
    match ds with
    | [.lst xs] | [.tup xs] => nul (.tup xs)
    | _ => none
  else if f = Str.ofString "max" then
    match ds with
    | [.int i, .int j] => nul (.int (if j > i then j else i))
    | _ => none
  else if f = Str.ofString "min" then
    match ds with
    | [.int i, .int j] => nul (.int (if j < i then j else i))
    | _ => none
  else if f = Str.ofString "isinstance" then
    match ds with
    | [d, .ty n] => (typeOK n d).map fun b => (.bool b, false)
    | _ => none
  else none
/-- methods that change nothing -/
def mthD (m : Str) (o : D) (ds : List D) : Option DB :=
  if m = Str.ofString "get" then
    match o, ds with
    | .dic kvs, [k] => if k.key then nul ((lookD kvs k).getD .none) else none
    | .dic kvs, [k, d] => if k.key then nul ((lookD kvs k).getD d) else none
    | _, _ => none
  else none
/-- methods that change a list: the answer, the list behind -/
def chgD (m : Str) (o : D) (ds : List D) : Option (D × D) :=
  if m = Str.ofString "append" then
    match o, ds with
    | .lst xs, [d] => if xs.length < sizeMax then some (.none, .lst (xs ++ [d])) else none
    | _, _ => none
  else if m = Str.ofString "pop" then
    match o, ds with
    | .lst xs, [] => (xs[xs.length - 1]?).map fun y => (y, .lst xs.dropLast)
    | .lst xs, [.int i] => if -(2 ^ 63) ≤ i ∧ i < 2 ^ 63 then match L2.ixN xs.length i with
      | some k => (xs[k]?).map fun y => (y, .lst (xs.eraseIdx k))
      | none => none
      else none
    | _, _ => none
  else none
def isChg (m : Str) : Bool := decide (m = Str.ofString "append") || decide (m = Str.ofString "pop")
def setD (o i v : D) : Option D :=
  match o, i with
  | .lst xs, .int k => (L2.ixN xs.length k).map fun j => .lst (xs.set j v)
  | _, _ => none

/-! ## the evaluator -/
/-- an argument: a value, or a name that is read as late as can be -/
inductive Ar where
  | v (d : D) | s (i : Nat)
def rdS : Sl → Option D
  | .fr d | .ow d => some d
  | .un => none
def rd1 (e : En) : Ar → Option D
  | .v d => some d
  | .s i => (e[i]?).bind rdS
def rd (e : En) : List Ar → Option (List D)
  | [] => some []
  | a :: r => (rd1 e a).bind fun d => (rd e r).map (d :: ·)
def isDef (e : En) (i : Nat) : Bool := match e[i]? with
  | some (.fr _) | some (.ow _) => true
  | _ => false
/-- a list in the slot, or in the store: a method may change it -/
def isLst (e : En) (s : Sto) (i : Nat) : Bool := match e[i]? with
  | some (.ow (.lst _)) => true
  | some (.fr (.loc n)) => match s[n]? with
    | some (.lst _) => true
    | _ => false
  | _ => false
def isLoc (s : Sto) : D → Bool
  | .loc n => match s[n]? with
    | some (.lst _) => true
    | _ => false
  | _ => false
/-- names whose lists others know from now on -/
def fz1 (e : En) (i : Nat) : En := match e[i]? with
  | some (.ow d) => e.set i (.fr d)
  | _ => e
def fz (e : En) : List Ar → En
  | [] => e
  | .v _ :: r => fz e r
  | .s i :: r => fz (fz1 e i) r
/-- the object that a value is: itself, or the store's -/
def der (st : Sto) : D → Option D
  | .loc n => st[n]?
  | d => some d
def ders (st : Sto) : List D → Option (List D)
  | [] => some []
  | d :: r => (der st d).bind fun x => (ders st r).map (x :: ·)
/-- the new own list as a store object, or as it is -/
def stow (l : Bool) (d : D) (e : En) (st : Sto) : R DB := if l then .ok (.loc st.length, false) e (st ++ [d]) else .ok (d, true) e st
def wipeE (e : En) : List Nat → En
  | [] => e
  | v :: vs => (wipeE e vs).set v .un
def compL (f : D → En → Sto → R (Option D)) : List D → List D → En → Sto → R (List D)
  | [], acc, e, s => .ok acc e s
  | x :: xs, acc, e, s => (f x e s).bind fun o e s => match o with
    | some d => if acc.length < sizeMax then compL f xs (acc ++ [d]) e s else .no
    | none => compL f xs acc e s
def rangeL (a b : Int) : List D := (List.range (b - a).toNat).map fun i => D.int (a + (i : Nat))
def small62 (a : Int) : Bool := decide (-(2 ^ 62) ≤ a ∧ a < 2 ^ 62)
def itemsD : D → Option (List D)
  | .lst xs | .tup xs => some xs
  | .str z => some (z.cps.toList.map fun c => D.str ⟨#[c]⟩)
  | _ => none
/-- a new value bound to a name -/
def putN (e : En) (i : Nat) (d : DB) : En := e.set i (if d.2 then .ow d.1 else .fr d.1)
def forL (f : D → En → Sto → R O) : List D → En → Sto → R O
  | [], e, s => .ok .nx e s
  | x :: xs, e, s => (f x e s).bind fun o e s => match o with
    | .nx | .ct => forL f xs e s
    | .bk => .ok .nx e s
    | .rt d w => .ok (.rt d w) e s
def whlL (c : En → Sto → R Bool) (f : En → Sto → R O) : Nat → En → Sto → R O
  | 0, _, _ => .no
  | n + 1, e, s => (c e s).bind fun b e s => if b then (f e s).bind fun o e s => match o with
      | .nx | .ct => whlL c f n e s
      | .bk => .ok .nx e s
      | .rt d w => .ok (.rt d w) e s
    else .ok .nx e s
def fuel : Nat := 1000000000000
def tight (d : D) (own : Bool) : Bool := d.imm || (own && match d with | .lst xs => immL xs | _ => false)

/-- an object of a slot changed: the slot's own, or the store's -/
def chgS (f : D → Option (D × D)) (i : Nat) (e : En) (s : Sto) : R DB :=
  match e[i]? with
  | some (.ow x) => match f x with
    | some (r, x') => .ok (r, false) (e.set i (.ow x')) s
    | none => .no
  | some (.fr (.loc n)) => match (s[n]?).bind f with
    | some (r, x') => .ok (r, false) e (s.set n x')
    | none => .no
  | _ => .no
def chgO (f : D → Option (D × D)) (d : D) (e : En) (s : Sto) : R DB :=
  match d with
  | .loc n => match (s[n]?).bind f with
    | some (r, x') => .ok (r, false) e (s.set n x')
    | none => .no
  | _ => .no
/-- the arguments' values, the objects behind them -/
def opR (e : En) (s : Sto) (as : List Ar) (f : List D → R DB) : R DB :=
  match (rd e as).bind (ders s) with
  | some ds => f ds
  | none => .no
def binO (op : Operator) (ds : List D) : Option DB := match ds with
  | [x, y] => binD op x y
  | _ => none
def subO (ds : List D) : Option DB := match ds with
  | [x, y] => (subD x y).map fun d => (d, false)
  | _ => none
/-- a slice: 0 no bound, 1 the lower, 2 the upper, 3 both -/
def slcO (k : Nat) (ds : List D) : Option DB := match k, ds with
  | 0, [x] => slcD x none none
  | 1, [x, .int i] => slcD x (some i) none
  | 2, [x, .int i] => slcD x none (some i)
  | 3, [x, .int i, .int j] => slcD x (some i) (some j)
  | _, _ => none
def mthO (m : Str) (ds : List D) : Option DB := match ds with
  | x :: ds => mthD m x ds
  | _ => none
def cmpO (op : CmpOp) (s : Sto) (ds : List D) : Option Bool := match ds with
  | [x, y] => (der s x).bind fun x => (der s y).bind fun y => cmpD op x y
  | _ => none
/-- a call: pure (no store object goes in or out), or with the store -/
def callP (r : Option (Rv × Sto)) (e : En) (as : List Ar) (s : Sto) : R DB := match r with
  | some (.rt d w, _) => if tight d w then .ok (d, w) e s else if d.nol then .ok (d, w) (fz e as) s else .no
  | _ => .no
def callS (r : Option (Rv × Sto)) (e : En) (as : List Ar) : R DB := match r with
  | some (.rt d w, s') => .ok (d, w) (fz e as) s'
  | some (.rx x, s') => .ex x (fz e as) s'
  | none => .no
def boolR (o : Option Bool) (e : En) (s : Sto) : R DB := match o with
  | some b => .ok (.bool b, false) e s
  | none => .no
def iff (d : DB) (t f : R DB) : R DB := match d.1 with
  | .bool true => t
  | .bool false => f
  | _ => .no

def tsLen : Ts → Nat
  | .nil => 0
  | .cons _ r => tsLen r + 1
mutual
def ev (B : Tab) (G : Glb) : E → En → Sto → R DB
  | .int i, e, s => .ok (.int i, false) e s
  | .str x, e, s => .ok (.str x, false) e s
  | .bl b, e, s => .ok (.bool b, false) e s
  | .non, e, s => .ok (.none, false) e s
  | .var i, e, s => match e[i]? with
    | some (.fr d) => .ok (d, false) e s
    | some (.ow d) => .ok (d, false) (e.set i (.fr d)) s
    | _ => .no
  | .gl x, e, s => .of ((G x).map fun d => (d, false)) e s
  | .bin op es, e, s => (ag B G es e s).bind fun as e s => opR e s as fun ds => .of (binO op ds) e s
  | .neg a, e, s => (ev B G a e s).bind fun d e s => match d.1 with
    | .int i => .ok (.int (-i), false) e s
    | _ => .no
  | .not a, e, s => (ev B G a e s).bind fun d e s => iff d (.ok (.bool false, false) e s) (.ok (.bool true, false) e s)
  | .and es, e, s => evAnd B G es e s
  | .or es, e, s => evOr B G es e s
  | .ite c a b, e, s => (ev B G c e s).bind fun d e s => iff d (ev B G a e s) (ev B G b e s)
  | .cmp op es, e, s => (ag B G es e s).bind fun as e s => boolR ((rd e as).bind (cmpO op s)) e s
  | .chn o1 o2 es c, e, s => (ag B G es e s).bind fun as e s => match rd e as with
    | some [x, .int j] => match cmpD o1 x (.int j) with
      | some true => (ev B G c e s).bind fun z e s => boolR (cmpD o2 (.int j) z.1) e s
      | some false => .ok (.bool false, false) e s
      | none => .no
    | _ => .no
  | .tup es, e, s => (ag B G es e s).bind fun as e s => match rd e as with
    | some ds => if ds.length ≤ sizeMax then .ok (.tup ds, false) (fz e as) s else .no
    | none => .no
  | .lst l es, e, s => (ag B G es e s).bind fun as e s => match rd e as with
    | some ds => if ds.length ≤ sizeMax then stow l (.lst ds) (fz e as) s else .no
    | none => .no
  | .call p f es, e, s => (ag B G es e s).bind fun as e s => match rd e as with
    | some ds => if p then (if nolL ds then callP (B f ds []) e as s else .no) else callS (B f ds s) e as
    | none => .no
  | .blt f es, e, s => (ag B G es e s).bind fun as e s => opR e s as fun ds => .of (bltD f ds) e s
  | .mth m es, e, s => (ag B G es e s).bind fun as e s => opR e s as fun ds => .of (mthO m ds) e s
  | .chv m i es, e, s => if isLst e s i then (ag B G es e s).bind fun as e s => match rd e as with
    | some ds => chgS (fun x => chgD m x ds) i (fz e as) s
    | none => .no
    else .no
  | .cho m o es, e, s => (ev B G o e s).bind fun d e s => if isLoc s d.1 then (ag B G es e s).bind fun as e s => match rd e as with
    | some ds => chgO (fun x => chgD m x ds) d.1 (fz e as) s
    | none => .no
    else .no
  | .sub es, e, s => (ag B G es e s).bind fun as e s => opR e s as fun ds => .of (subO ds) e s
  | .slc k es, e, s => (ag B G es e s).bind fun as e s => opR e s as fun ds => .of (slcO k ds) e s
  | .slb es c, e, s => (ag B G es e s).bind fun as e s => match rd e as with
    | some [_, .int _] => (ev B G c e s).bind fun d e s => opR e s as fun ds => .of (slcO 3 (ds ++ [d.1])) e s
    | _ => .no
  | .comp l elt t it c own, e, s => (its B G it e s).bind fun xs e s =>
    (R.nox (compL (fun x e s => (asg B G t (x, false) e s).bind fun _ e s => (evAnd B G c e s).bind fun b e s => match b.1 with
      | .bool true => (ev B G elt e s).bind fun d e s => .ok (some d.1) e s
      | .bool false => .ok none e s
      | _ => .no) xs [] (wipeE e (own.map (·.2))) s)).bind fun ds e s => stow l (.lst ds) (wipeE e (own.map (·.2))) s
  | .nev, _, _ => .no
def evAnd (B : Tab) (G : Glb) : Es → En → Sto → R DB
  | .nil, e, s => .ok (.bool true, false) e s
  | .cons a .nil, e, s => ev B G a e s
  | .cons a (.cons b r), e, s => (ev B G a e s).bind fun d e s => iff d (evAnd B G (.cons b r) e s) (.ok (.bool false, false) e s)
def evOr (B : Tab) (G : Glb) : Es → En → Sto → R DB
  | .nil, _, _ => .no
  | .cons a .nil, e, s => ev B G a e s
  | .cons a (.cons b r), e, s => (ev B G a e s).bind fun d e s => iff d (.ok (.bool true, false) e s) (evOr B G (.cons b r) e s)
def ag (B : Tab) (G : Glb) : Es → En → Sto → R (List Ar)
  | .nil, e, s => .ok [] e s
  | .cons (.var i) r, e, s => if isDef e i then (ag B G r e s).bind fun as e s => .ok (.s i :: as) e s else .no
  | .cons a r, e, s => (ev B G a e s).bind fun d e s => (ag B G r e s).bind fun as e s => .ok (.v d.1 :: as) e s
def its (B : Tab) (G : Glb) : I → En → Sto → R (List D)
  | .it a, e, s => (ev B G a e s).bind fun d e s => match itemsD d.1 with
    | some xs => .ok xs e s
    | none => .no
  | .rg1 a, e, s => (ev B G a e s).bind fun d e s => match d.1 with
    | .int j => if small62 j then .ok (rangeL 0 j) e s else .no
    | _ => .no
  | .rg2 a b, e, s => (ev B G a e s).bind fun x e s => (ev B G b e s).bind fun y e s => match x.1, y.1 with
    | .int i, .int j => if small62 i && small62 j then .ok (rangeL i j) e s else .no
    | _, _ => .no
  | .rev a, e, s => (ev B G a e s).bind fun d e s => match d.1 with
    | .lst xs => .ok xs.reverse e s
    | _ => .no
  | .zip a b, e, s => (ev B G a e s).bind fun x e s => (ev B G b e s).bind fun y e s => match x.1, y.1 with
    | .lst xs, .lst ys => .ok (List.zipWith (fun x y => D.tup [x, y]) xs ys) e s
    | _, _ => .no
  | .enu a, e, s => (ev B G a e s).bind fun d e s => match d.1 with
    | .lst xs => .ok (xs.zipIdx.map fun p => D.tup [.int (p.2 : Nat), p.1]) e s
    | _ => .no
def asg (B : Tab) (G : Glb) : T → DB → En → Sto → R Unit
  | .nm i, d, e, s => if i < e.length then .ok () (putN e i d) s else .no
  | .tp ts, d, e, s => match d.1 with
    | .tup xs => if xs.length = tsLen ts then asgs B G ts xs e s else .no
    | _ => .no
  | .sbv n i, v, e, s => if isDef e n then (ev B G i e s).bind fun k e s => (chgS (fun x => (setD x k.1 v.1).map fun x' => (.none, x')) n e s).bind fun _ e s => .ok () e s
    else .no
  | .sbo o i, v, e, s => (ev B G o e s).bind fun d e s => (ev B G i e s).bind fun k e s => (chgO (fun x => (setD x k.1 v.1).map fun x' => (.none, x')) d.1 e s).bind fun _ e s => .ok () e s
def asgs (B : Tab) (G : Glb) : Ts → List D → En → Sto → R Unit
  | .nil, [], e, s => .ok () e s
  | .cons t ts, x :: xs, e, s => (asg B G t (x, false) e s).bind fun _ e s => asgs B G ts xs e s
  | _, _, _, _ => .no
end
def evB (B : Tab) (G : Glb) (c : E) (e : En) (s : Sto) : R Bool := (ev B G c e s).bind fun d e s => match d.1 with
  | .bool b => .ok b e s
  | _ => .no
/-- name op= value: ints, texts -/
def augD (op : Operator) (a b : D) : Option D :=
  match op, a, b with
  | .Add, .int i, .int j => some (.int (i + j))
  | .Sub, .int i, .int j => some (.int (i - j))
  | .Add, .str x, .str y => if x.length + y.length ≤ sizeMax then some (.str (x ++ y)) else none
  | _, _, _ => none
mutual
def xS (B : Tab) (G : Glb) : S → En → Sto → R O
  | .exp a, e, s => (ev B G a e s).bind fun _ e s => .ok .nx e s
  | .set t a, e, s => (ev B G a e s).bind fun d e s => (asg B G t d e s).bind fun _ e s => .ok .nx e s
  | .aug i op a, e, s => match e[i]? with
    | some (.fr x) => (ev B G a e s).bind fun d e s => match augD op x d.1 with
      | some r => .ok .nx (putN e i (r, false)) s
      | none => .no
    | _ => .no
  | .ifs c a b, e, s => (evB B G c e s).bind fun d e s => if d then xL B G a e s else xL B G b e s
  | .whl c b, e, s => whlL (fun e s => evB B G c e s) (fun e s => xL B G b e s) fuel e s
  | .for_ t it b, e, s => (its B G it e s).bind fun xs e s => forL (fun x e s => (asg B G t (x, false) e s).bind fun _ e s => xL B G b e s) xs e s
  | .ret a, e, s => (ev B G a e s).bind fun d e s => .ok (.rt d.1 d.2) e s
  | .retN, e, s => .ok (.rt .none false) e s
  | .brk, e, s => .ok .bk e s
  | .cnt, e, s => .ok .ct e s
  | .pas, e, s => .ok .nx e s
  | .nev, _, _ => .no
def xL (B : Tab) (G : Glb) : Ss → En → Sto → R O
  | .nil, e, s => .ok .nx e s
  | .cons a r, e, s => (xS B G a e s).bind fun o e s => match o with
    | .nx => xL B G r e s
    | o => .ok o e s
end
/-- a def: its number of slots, its parameters, its body -/
structure Df where
  np : Nat
  ns : Nat
  body : Ss
def runD (B : Tab) (G : Glb) (d : Df) (ds : List D) (s : Sto) : Option (Rv × Sto) :=
  if ds.length = d.np ∧ d.np ≤ d.ns then
    match xL B G d.body (ds.map Sl.fr ++ List.replicate (d.ns - d.np) Sl.un) s with
    | .ok .nx _ s => some (.rt .none false, s)
    | .ok (.rt x w) _ s => some (.rt x w, s)
    | .ex x _ s => some (.rx x, s)
    | _ => none
  else none
/-- the defs by levels -/
def tab (P : Str → Option Df) (G : Glb) : Nat → Tab
  | 0, _, _, _ => none
  | k + 1, f, ds, s => match P f with
    | some d => runD (tab P G k) G d ds s
    | none => none
end Pv
namespace Pv
open PySem PySem.Spec PyProof.Rows L2

/-! ## values in the heap -/
abbrev Zn := Addr → Prop
/-- a list that never changes -/
def LsF (K : PySem.W.Frag) (H : Hp) (F : Zn) (a : Addr) (xs : List V) : Prop := (F a ∧ Rd H a (.lst xs)) ∨
    ∃ (o : Obj) (its : Array Value) (n : Nat), K.lookup a = some o ∧ o.cls = .type "list" ∧ o.dict = none ∧ o.data = .seq its n ∧ its.size ≤ sizeLine ∧ Vals xs its.toList
theorem LsF.sq {K : PySem.W.Frag} {H : Hp} {F : Zn} {a : Addr} {xs : List V} (h : LsF K H F a xs) : SqL K H a xs := h.elim (fun h => .inl h.2) .inr
theorem LsF.of {K : PySem.W.Frag} {H : Hp} {F : Zn} {a : Addr} {xs : List V} (h : F a) (r : Rd H a (.lst xs)) : LsF K H F a xs := .inl ⟨h, r⟩
mutual
inductive Rep (K : PySem.W.Frag) (H : Hp) (F : Zn) (io : List Addr) : V → D → Prop
  | non : Rep K H F io .non .none
  | bl (b : Bool) : Rep K H F io (.bl b) (.bool b)
  | int (i : Int) : Rep K H F io (.int i) (.int i)
  | str (x : Str) : Rep K H F io (.str x) (.str x)
  | ty (n : String) : Rep K H F io (.ty n) (.ty n)
  | tup {a : Addr} {xs : List V} {ds : List D} : SqT K H a xs → RepL K H F io xs ds → Rep K H F io (.ref a) (.tup ds)
  | lst {a : Addr} {xs : List V} {ds : List D} : LsF K H F a xs → RepL K H F io xs ds → Rep K H F io (.ref a) (.lst ds)
  | loc {a : Addr} {n : Nat} : io[n]? = some a → Rep K H F io (.ref a) (.loc n)
inductive RepL (K : PySem.W.Frag) (H : Hp) (F : Zn) (io : List Addr) : List V → List D → Prop
  | nil : RepL K H F io [] []
  | cons {v : V} {vs : List V} {d : D} {ds : List D} : Rep K H F io v d → RepL K H F io vs ds → RepL K H F io (v :: vs) (d :: ds)
end
/-- what stays -/
structure Ext (F : Zn) (io : List Addr) (H : Hp) (F' : Zn) (io' : List Addr) (H' : Hp) : Prop where
  ff : ∀ a, F a → F' a
  rd : ∀ a u, F a → Rd H a u → Rd H' a u
  tp : ∀ a xs, Rd H a (.tup xs) → Rd H' a (.tup xs)
  io : ∃ l, io' = io ++ l
theorem Ext.refl (F : Zn) (io : List Addr) (H : Hp) : Ext F io H F io H := ⟨fun _ h => h, fun _ _ _ h => h, fun _ _ h => h, [], by simp⟩
theorem Ext.trans {F F1 F2 : Zn} {io io1 io2 : List Addr} {H H1 H2 : Hp} (a : Ext F io H F1 io1 H1) (b : Ext F1 io1 H1 F2 io2 H2) : Ext F io H F2 io2 H2 :=
  ⟨fun c h => b.ff c (a.ff c h), fun c u h r => b.rd c u (a.ff c h) (a.rd c u h r), fun c xs r => b.tp c xs (a.tp c xs r), by
    obtain ⟨l, e⟩ := a.io; obtain ⟨m, e'⟩ := b.io; exact ⟨l ++ m, by rw [e', e, List.append_assoc]⟩⟩
section
variable {K : PySem.W.Frag} {F F' : Zn} {io io' : List Addr} {H H' : Hp}
theorem Ext.get (x : Ext F io H F' io' H') {n : Nat} {a : Addr} (h : io[n]? = some a) : io'[n]? = some a := by
  obtain ⟨l, e⟩ := x.io
  obtain ⟨hn, _⟩ := List.getElem?_eq_some_iff.mp h
  rw [e, List.getElem?_append_left hn, h]
theorem LsF.ext {a : Addr} {xs : List V} (x : Ext F io H F' io' H') (h : LsF K H F a xs) : LsF K H' F' a xs := h.elim (fun h => .inl ⟨x.ff _ h.1, x.rd _ _ h.1 h.2⟩) .inr
theorem sqT_ext {a : Addr} {xs : List V} (x : Ext F io H F' io' H') (h : SqT K H a xs) : SqT K H' a xs := by
  rcases h with h | h
  · exact .inl (x.tp _ _ h)
  · exact .inr h
mutual
theorem Rep.ext (x : Ext F io H F' io' H') : ∀ {d : D} {v : V}, Rep K H F io v d → Rep K H' F' io' v d
  | .none, _, h => by cases h; exact .non
  | .bool _, _, h => by cases h; exact .bl _
  | .int _, _, h => by cases h; exact .int _
  | .str _, _, h => by cases h; exact .str _
  | .ty _, _, h => by cases h; exact .ty _
  | .tup ds, _, h => by cases h with | tup s l => exact .tup (sqT_ext x s) (RepL.ext x l)
  | .lst ds, _, h => by cases h with | lst s l => exact .lst (s.ext x) (RepL.ext x l)
  | .dic _, _, h => by cases h
  | .loc n, _, h => by cases h with | loc e => exact .loc (x.get e)
theorem RepL.ext (x : Ext F io H F' io' H') : ∀ {ds : List D} {vs : List V}, RepL K H F io vs ds → RepL K H' F' io' vs ds
  | [], _, h => by cases h; exact .nil
  | d :: ds, _, h => by cases h with | cons a b => exact .cons (Rep.ext x a) (RepL.ext x b)
end
theorem RepL.length {vs : List V} {ds : List D} (h : RepL K H F io vs ds) : vs.length = ds.length := by
  induction ds generalizing vs with
  | nil => cases h; rfl
  | cons d ds ih => cases h with | cons a b => simp [ih b]
theorem RepL.get {i : Nat} : ∀ {vs : List V} {ds : List D} {d : D}, RepL K H F io vs ds → ds[i]? = some d → ∃ v, vs[i]? = some v ∧ Rep K H F io v d := by
  induction i with
  | zero => intro vs ds d h e; cases h with
    | nil => simp at e
    | cons a b => simp at e; subst e; exact ⟨_, rfl, a⟩
  | succ i ih => intro vs ds d h e; cases h with
    | nil => simp at e
    | cons a b => simpa using ih b (by simpa using e)
theorem RepL.append {vs ws : List V} {ds es : List D} (h : RepL K H F io vs ds) (h' : RepL K H F io ws es) : RepL K H F io (vs ++ ws) (ds ++ es) := by
  induction ds generalizing vs with
  | nil => cases h; exact h'
  | cons d ds ih => cases h with | cons a b => exact .cons a (ih b)
theorem RepL.snoc {vs : List V} {ds : List D} {v : V} {d : D} (h : RepL K H F io vs ds) (h' : Rep K H F io v d) : RepL K H F io (vs ++ [v]) (ds ++ [d]) := h.append (.cons h' .nil)
theorem RepL.drop {vs : List V} {ds : List D} (n : Nat) (h : RepL K H F io vs ds) : RepL K H F io (vs.drop n) (ds.drop n) := by
  induction n generalizing vs ds with
  | zero => exact h
  | succ n ih => cases h with
    | nil => exact .nil
    | cons a b => exact ih b
theorem RepL.take {vs : List V} {ds : List D} (n : Nat) (h : RepL K H F io vs ds) : RepL K H F io (vs.take n) (ds.take n) := by
  induction n generalizing vs ds with
  | zero => exact .nil
  | succ n ih => cases h with
    | nil => exact .nil
    | cons a b => exact .cons a (ih b)
theorem RepL.set {vs : List V} {ds : List D} {v : V} {d : D} (n : Nat) (h : RepL K H F io vs ds) (h' : Rep K H F io v d) : RepL K H F io (vs.set n v) (ds.set n d) := by
  induction n generalizing vs ds with
  | zero => cases h with
    | nil => exact .nil
    | cons a b => exact .cons h' b
  | succ n ih => cases h with
    | nil => exact .nil
    | cons a b => exact .cons a (ih b)
theorem RepL.eraseIdx {vs : List V} {ds : List D} (n : Nat) (h : RepL K H F io vs ds) : RepL K H F io (vs.eraseIdx n) (ds.eraseIdx n) := by
  induction n generalizing vs ds with
  | zero => cases h with
    | nil => exact .nil
    | cons a b => exact b
  | succ n ih => cases h with
    | nil => exact .nil
    | cons a b => exact .cons a (ih b)
theorem RepL.reverse {vs : List V} {ds : List D} (h : RepL K H F io vs ds) : RepL K H F io vs.reverse ds.reverse := by
  induction ds generalizing vs with
  | nil => cases h; exact .nil
  | cons d ds ih => cases h with
    | cons a b => rw [List.reverse_cons, List.reverse_cons]; exact (ih b).snoc a
theorem RepL.dropLast {vs : List V} {ds : List D} (h : RepL K H F io vs ds) : RepL K H F io vs.dropLast ds.dropLast := by
  rw [List.dropLast_eq_take, List.dropLast_eq_take, h.length]; exact h.take _
mutual
/-- what holds no list, dict or store object stands wherever the tuples stand -/
theorem Rep.imm (tp : ∀ a xs, Rd H a (.tup xs) → Rd H' a (.tup xs)) : ∀ {d : D} {v : V}, d.imm = true → Rep K H F io v d → Rep K H' F' io' v d
  | .none, _, _, h => by cases h; exact .non
  | .bool _, _, _, h => by cases h; exact .bl _
  | .int _, _, _, h => by cases h; exact .int _
  | .str _, _, _, h => by cases h; exact .str _
  | .ty _, _, _, h => by cases h; exact .ty _
  | .tup ds, _, i, h => by
    cases h with
    | tup s l => exact .tup (by rcases s with s | s; exact .inl (tp _ _ s); exact .inr s) (RepL.imm tp (by simpa [D.imm] using i) l)
  | .lst ds, _, i, h => by simp [D.imm] at i
  | .dic _, _, _, h => by cases h
  | .loc n, _, i, h => by simp [D.imm] at i
theorem RepL.imm (tp : ∀ a xs, Rd H a (.tup xs) → Rd H' a (.tup xs)) : ∀ {ds : List D} {vs : List V}, immL ds = true → RepL K H F io vs ds → RepL K H' F' io' vs ds
  | [], _, _, h => by cases h; exact .nil
  | d :: ds, _, i, h => by
    cases h with
    | cons a b =>
      simp only [immL, Bool.and_eq_true] at i
      exact .cons (Rep.imm tp i.1 a) (RepL.imm tp i.2 b)
end
mutual
/-- what holds no store object does not know the store -/
theorem Rep.nol (io' : List Addr) : ∀ {d : D} {v : V}, d.nol = true → Rep K H F io v d → Rep K H F io' v d
  | .none, _, _, h => by cases h; exact .non
  | .bool _, _, _, h => by cases h; exact .bl _
  | .int _, _, _, h => by cases h; exact .int _
  | .str _, _, _, h => by cases h; exact .str _
  | .ty _, _, _, h => by cases h; exact .ty _
  | .tup ds, _, i, h => by
    cases h with
    | tup s l => exact .tup s (RepL.nol io' (by simpa [D.nol] using i) l)
  | .lst ds, _, i, h => by
    cases h with
    | lst s l => exact .lst s (RepL.nol io' (by simpa [D.nol] using i) l)
  | .dic _, _, _, h => by cases h
  | .loc n, _, i, h => by simp [D.nol] at i
theorem RepL.nol (io' : List Addr) : ∀ {ds : List D} {vs : List V}, nolL ds = true → RepL K H F io vs ds → RepL K H F io' vs ds
  | [], _, _, h => by cases h; exact .nil
  | d :: ds, _, i, h => by
    cases h with
    | cons a b =>
      simp only [nolL, Bool.and_eq_true] at i
      exact .cons (Rep.nol io' i.1 a) (RepL.nol io' i.2 b)
end
end

/-! ## states -/
/-- the object at a is d -/
def Ob (K : PySem.W.Frag) (H : Hp) (F : Zn) (io : List Addr) (a : Addr) (d : D) : Prop :=
  ∃ vs ds, H a = some (.lst vs) ∧ RepL K H F io vs ds ∧ d = .lst ds
theorem Ob.ext {K : PySem.W.Frag} {F F' : Zn} {io io' : List Addr} {H H' : Hp} {a : Addr} {d : D} (x : Ext F io H F' io' H') (e : H' a = H a) (h : Ob K H F io a d) : Ob K H' F' io' a d := by
  obtain ⟨vs, ds, h, r, k⟩ := h
  exact ⟨vs, ds, e.trans h, r.ext x, k⟩
/-- the entry of a def: the heap, the store's addresses -/
structure Zo where
  H0 : Hp
  i0 : List Addr
  F0 : Zn
structure Cel (K : PySem.W.Frag) (F : Zn) (io : List Addr) (st : Sto) (H : Hp) : Prop where
  dom : ∀ a, F a → ∃ u, H a = some u
  len : io.length = st.length
  nd : io.Nodup
  nof : ∀ a ∈ io, ¬ F a
  cell : ∀ (n : Nat) (a : Addr) (d : D), io[n]? = some a → st[n]? = some d → Ob K H F io a d
structure SR (K : PySem.W.Frag) (z : Zo) (F : Zn) (io : List Addr) (e : En) (st : Sto) (σ : L2.St) (H : Hp) : Prop where
  cel : Cel K F io st H
  el : e.length = σ.length
  fr : ∀ (i : Nat) (d : D), e[i]? = some (.fr d) → ∃ v, σ[i]? = some (some v) ∧ Rep K H F io v d
  ow : ∀ (i : Nat) (d : D), e[i]? = some (.ow d) → ∃ a, σ[i]? = some (some (.ref a)) ∧ Ob K H F io a d ∧ ¬ F a ∧ a ∉ io ∧ z.H0 a = none
  sep : ∀ (i j : Nat) (d d' : D) (a : Addr), e[i]? = some (.ow d) → e[j]? = some (.ow d') → σ[i]? = some (some (.ref a)) → σ[j]? = some (some (.ref a)) → i = j
  frm : ∀ a u, z.H0 a = some u → a ∉ z.i0 → H a = some u
  pre : ∃ l, io = z.i0 ++ l ∧ ∀ a ∈ l, z.H0 a = none
  fnw : ∀ a, F a → z.F0 a ∨ z.H0 a = none
theorem Ob.there {K : PySem.W.Frag} {F : Zn} {io : List Addr} {H : Hp} {a : Addr} {d : D} (h : Ob K H F io a d) : ∃ u, H a = some u := by
  obtain ⟨vs, _, h, _⟩ := h
  exact ⟨_, h⟩
/-- an own list or dict at v -/
def OwR (K : PySem.W.Frag) (z : Zo) (H : Hp) (F : Zn) (io : List Addr) (e : En) (σ : L2.St) (v : V) (d : D) : Prop :=
  ∃ a, v = .ref a ∧ Ob K H F io a d ∧ ¬ F a ∧ a ∉ io ∧ z.H0 a = none ∧ ∀ (i : Nat) (d' : D), e[i]? = some (.ow d') → σ[i]? ≠ some (some (.ref a))
def VR (K : PySem.W.Frag) (z : Zo) (H : Hp) (F : Zn) (io : List Addr) (e : En) (σ : L2.St) (v : V) (r : DB) : Prop :=
  if r.2 then OwR K z H F io e σ v r.1 else Rep K H F io v r.1
/-- behind an expression: what it gives is r -/
def PoE (K : PySem.W.Frag) (z : Zo) (F : Zn) (io : List Addr) (H : Hp) (e' : En) (st' : Sto) (σ : L2.St) (r : DB) (v : V) (H' : Hp) : Prop :=
  ∃ F' io', Ext F io H F' io' H' ∧ SR K z F' io' e' st' σ H' ∧ VR K z H' F' io' e' σ v r
def PoF (K : PySem.W.Frag) (z : Zo) (F : Zn) (io : List Addr) (H : Hp) (e' : En) (st' : Sto) (σ : L2.St) (d : D) (v : V) (H' : Hp) : Prop :=
  ∃ F' io', Ext F io H F' io' H' ∧ SR K z F' io' e' st' σ H' ∧ Rep K H' F' io' v d
section
variable {K : PySem.W.Frag} {z : Zo} {F F' : Zn} {io io' : List Addr} {H H' : Hp} {e : En} {st : Sto} {σ : L2.St} {a : Addr} {d : D} {v : V}
/-- one more frozen address -/
def fzn (F : Zn) (a : Addr) : Zn := fun b => F b ∨ b = a
theorem ext_fzn : Ext F io H (fzn F a) io H := ⟨fun _ h => .inl h, fun _ _ _ r => r, fun _ _ r => r, [], by simp⟩
theorem Ob.rep (h : Ob K H F io a d) : Rep K H (fzn F a) io (.ref a) d := by
  obtain ⟨vs, ds, h, r, rfl⟩ := h
  exact .lst (.of (.inr rfl) (.inl h)) (r.ext ext_fzn)
theorem Cel.freeze (c : Cel K F io st H) (h : ∃ u, H a = some u) (n : a ∉ io) : Cel K (fzn F a) io st H :=
  ⟨fun b hb => hb.elim (c.dom b) fun e => e ▸ h, c.len, c.nd, fun b hb q => q.elim (c.nof b hb) fun e => n (e ▸ hb), fun m b d h1 h2 => (c.cell m b d h1 h2).ext ext_fzn rfl⟩
theorem SR.freeze (s : SR K z F io e st σ H) (h : ∃ u, H a = some u) (n : a ∉ io) (no : ∀ (i : Nat) (d' : D), e[i]? = some (.ow d') → σ[i]? ≠ some (some (.ref a))) (h0 : z.H0 a = none) : SR K z (fzn F a) io e st σ H :=
  ⟨s.cel.freeze h n, s.el, fun i d q => let ⟨v, h1, h2⟩ := s.fr i d q; ⟨v, h1, h2.ext ext_fzn⟩, fun i d q => by
    obtain ⟨b, h1, h2, h3, h4, h5⟩ := s.ow i d q
    exact ⟨b, h1, h2.ext ext_fzn rfl, fun z => z.elim h3 fun e => no i d q (e ▸ h1), h4, h5⟩, s.sep, s.frm, s.pre, fun b hb => hb.elim (s.fnw b) fun q => .inr (q ▸ h0)⟩
theorem PoE.frz {r : DB} {e' : En} {st' : Sto} (h : PoE K z F io H e' st' σ r v H') : PoF K z F io H e' st' σ r.1 v H' := by
  obtain ⟨F1, io1, x, s, r'⟩ := h
  unfold VR at r'
  split at r'
  · obtain ⟨a, rfl, ho, n1, n2, n3, n4⟩ := r'
    exact ⟨fzn F1 a, io1, x.trans ext_fzn, s.freeze ho.there n2 n4 n3, ho.rep⟩
  · exact ⟨F1, io1, x, s, r'⟩
theorem PoF.poE {e' : En} {st' : Sto} (h : PoF K z F io H e' st' σ d v H') : PoE K z F io H e' st' σ (d, false) v H' := h
/-- a slot whose own list is known from now on -/
theorem SR.fz1 (s : SR K z F io e st σ H) (i : Nat) : ∃ F', Ext F io H F' io H ∧ SR K z F' io (fz1 e i) st σ H := by
  unfold Pv.fz1
  split
  · rename_i d hd
    obtain ⟨a, h1, h2, h3, h4, h5⟩ := s.ow i d hd
    have hi : i < e.length := (List.getElem?_eq_some_iff.mp hd).1
    refine ⟨fzn F a, ext_fzn, ⟨s.cel.freeze h2.there h4, by simpa using s.el, fun j d' q => ?_, fun j d' q => ?_, fun j k d1 d2 b q1 q2 => ?_, s.frm, s.pre, fun b hb => hb.elim (s.fnw b) fun q => .inr (q ▸ h5)⟩⟩
    · by_cases hj : i = j
      · subst hj
        rw [List.getElem?_set_self hi] at q
        cases q
        exact ⟨_, h1, h2.rep⟩
      · rw [List.getElem?_set_ne hj] at q
        obtain ⟨v, q1, q2⟩ := s.fr j d' q
        exact ⟨v, q1, q2.ext ext_fzn⟩
    · have hj : i ≠ j := fun z => by subst z; rw [List.getElem?_set_self hi] at q; cases q
      rw [List.getElem?_set_ne hj] at q
      obtain ⟨b, g1, g2, g3, g4, g5⟩ := s.ow j d' q
      refine ⟨b, g1, g2.ext ext_fzn rfl, fun z => z.elim g3 fun z => ?_, g4, g5⟩
      subst z
      exact hj (s.sep i j _ _ _ hd q h1 g1)
    · have hj : i ≠ j := fun z => by subst z; rw [List.getElem?_set_self hi] at q1; cases q1
      have hk : i ≠ k := fun z => by subst z; rw [List.getElem?_set_self hi] at q2; cases q2
      rw [List.getElem?_set_ne hj] at q1
      rw [List.getElem?_set_ne hk] at q2
      exact s.sep j k _ _ _ q1 q2
  · exact ⟨F, .refl .., s⟩
end
end Pv
namespace Pv
open PySem PySem.Spec PyProof.Rows L2

theorem sizeMax_eq : sizeMax = sizeLine := by rw [sizeLine_eq]; rfl
/-- a value with what it is: a value, or an object as it stands -/
def RO (K : PySem.W.Frag) (H : Hp) (F : Zn) (io : List Addr) (v : V) (d : D) : Prop := Rep K H F io v d ∨ ∃ a, v = .ref a ∧ Ob K H F io a d
def ROL (K : PySem.W.Frag) (H : Hp) (F : Zn) (io : List Addr) : List V → List D → Prop
  | [], [] => True
  | v :: vs, d :: ds => RO K H F io v d ∧ ROL K H F io vs ds
  | _, _ => False
/-- what an operation gives: a value that stands already, a new list, a new tuple -/
def NV (K : PySem.W.Frag) (H : Hp) (F : Zn) (io : List Addr) (r : DB) (v : V) (H' : Hp) : Prop :=
  (H' = H ∧ r.2 = false ∧ Rep K H F io v r.1) ∨
  (∃ p xs ds, H p = none ∧ v = .ref p ∧ H' = upd H p (.lst xs) ∧ RepL K H F io xs ds ∧ r = (.lst ds, true)) ∨
  (∃ p xs ds, H p = none ∧ v = .ref p ∧ H' = upd H p (.tup xs) ∧ RepL K H F io xs ds ∧ r = (.tup ds, false))
section
variable {K : PySem.W.Frag} {z : Zo} {F F' : Zn} {io io' : List Addr} {H H' : Hp} {e : En} {st : Sto} {σ : L2.St} {a : Addr} {d : D} {v : V}
theorem RO.int {i : Int} (h : RO K H F io v (.int i)) : v = .int i := by
  rcases h with h | ⟨a, _, _, _, _, _, q⟩
  · cases h; rfl
  · cases q
theorem RO.str {x : Str} (h : RO K H F io v (.str x)) : v = .str x := by
  rcases h with h | ⟨a, _, _, _, _, _, q⟩
  · cases h; rfl
  · cases q
theorem RO.bl {b : Bool} (h : RO K H F io v (.bool b)) : v = .bl b := by
  rcases h with h | ⟨a, _, _, _, _, _, q⟩
  · cases h; rfl
  · cases q
theorem RO.none (h : RO K H F io v .none) : v = .non := by
  rcases h with h | ⟨a, _, _, _, _, _, q⟩
  · cases h; rfl
  · cases q
theorem RO.lst {ds : List D} (h : RO K H F io v (.lst ds)) : ∃ a xs, v = .ref a ∧ SqL K H a xs ∧ RepL K H F io xs ds := by
  rcases h with h | ⟨a, rfl, xs, es, h, r, q⟩
  · cases h with | lst s l => exact ⟨_, _, rfl, s.sq, l⟩
  · cases q; exact ⟨a, xs, rfl, .inl (.inl h), r⟩
theorem RO.tup {ds : List D} (h : RO K H F io v (.tup ds)) : ∃ a xs, v = .ref a ∧ SqT K H a xs ∧ RepL K H F io xs ds := by
  rcases h with h | ⟨a, rfl, xs, es, h, r, q⟩
  · cases h with | tup s l => exact ⟨_, _, rfl, s, l⟩
  · cases q
theorem NV.val {r : D} (h : Rep K H F io v r) : NV K H F io (r, false) v H := .inl ⟨rfl, rfl, h⟩
theorem NV.int (i : Int) : NV K H F io (.int i, false) (.int i) H := .val (.int i)
theorem NV.bl (i : Bool) : NV K H F io (.bool i, false) (.bl i) H := .val (.bl i)
theorem NV.str (i : Str) : NV K H F io (.str i, false) (.str i) H := .val (.str i)
theorem NV.lst {p : Addr} {xs : List V} {ds : List D} (h : H p = Option.none) (r : RepL K H F io xs ds) : NV K H F io (.lst ds, true) (.ref p) (upd H p (.lst xs)) := .inr (.inl ⟨p, xs, ds, h, rfl, rfl, r, rfl⟩)
theorem NV.tup {p : Addr} {xs : List V} {ds : List D} (h : H p = Option.none) (r : RepL K H F io xs ds) : NV K H F io (.tup ds, false) (.ref p) (upd H p (.tup xs)) := .inr (.inr ⟨p, xs, ds, h, rfl, rfl, r, rfl⟩)

/-- a new object at a free place -/
theorem ext_new {p : Addr} {o : HO} (h : H p = Option.none) (c : ∀ b, F b → ∃ u, H b = some u) : Ext F io H F io (upd H p o) := by
  have ne : ∀ b u, Rd H b u → b ≠ p := fun b u r e => by
    subst e
    rcases r with r | ⟨_, r⟩ <;> rw [h] at r <;> cases r
  have go : ∀ b u, Rd H b u → Rd (upd H p o) b u := fun b u r => by
    have n := ne b u r
    rcases r with r | ⟨q, r⟩
    · exact .inl (by rw [upd_ne n]; exact r)
    · exact .inr ⟨q, by rw [upd_ne n]; exact r⟩
  exact ⟨fun _ x => x, fun b u _ r => go b u r, fun b xs r => go b _ r, [], by simp⟩
theorem SR.newObj {p : Addr} {o : HO} (s : SR K z F io e st σ H) (h : H p = Option.none) : SR K z F io e st σ (upd H p o) := by
  have x := ext_new (F := F) (io := io) (o := o) h s.cel.dom
  have ob : ∀ {b : Addr} {d : D}, Ob K H F io b d → Ob K (upd H p o) F io b d := fun {b d} k => k.ext x (upd_ne fun q => by
    obtain ⟨u, e⟩ := k.there
    rw [q, h] at e; cases e)
  refine ⟨⟨fun b hb => ?_, s.cel.len, s.cel.nd, s.cel.nof, fun n b d h1 h2 => ob (s.cel.cell n b d h1 h2)⟩, s.el, fun i d q => ?_, fun i d q => ?_, s.sep, fun b u q n => ?_, s.pre, s.fnw⟩
  · obtain ⟨u, q⟩ := s.cel.dom b hb
    exact ⟨u, by rw [upd_ne (fun z => by rw [z, h] at q; cases q)]; exact q⟩
  · obtain ⟨v, h1, h2⟩ := s.fr i d q
    exact ⟨v, h1, h2.ext x⟩
  · obtain ⟨b, h1, h2, h3⟩ := s.ow i d q
    exact ⟨b, h1, ob h2, h3⟩
  · have := s.frm b u q n
    rw [upd_ne (fun z => by rw [z, h] at this; cases this)]
    exact this
theorem Cel.free (c : Cel K F io st H) {p : Addr} (h : H p = Option.none) : ¬ F p ∧ p ∉ io := by
  refine ⟨fun x => ?_, fun x => ?_⟩
  · obtain ⟨u, q⟩ := c.dom p x
    rw [h] at q; cases q
  · obtain ⟨n, hn, e⟩ := List.mem_iff_getElem.mp x
    have h1 : io[n]? = some p := by rw [List.getElem?_eq_getElem hn, e]
    have hn2 : n < st.length := by rw [← c.len]; exact hn
    have := c.cell n p st[n] h1 (List.getElem?_eq_getElem hn2)
    obtain ⟨u, q⟩ := this.there
    rw [h] at q; cases q
theorem SR.h0 (s : SR K z F io e st σ H) {p : Addr} (h : H p = Option.none) : z.H0 p = Option.none := by
  cases q : z.H0 p with
  | none => rfl
  | some u =>
    by_cases hp : p ∈ z.i0
    · obtain ⟨l, e, _⟩ := s.pre
      exact ((s.cel.free h).2 (by rw [e]; exact List.mem_append_left _ hp)).elim
    · have := s.frm p u q hp
      rw [h] at this; cases this
theorem NV.po {r : DB} (s : SR K z F io e st σ H) (h : NV K H F io r v H') : PoE K z F io H e st σ r v H' := by
  rcases h with ⟨rfl, h2, h3⟩ | ⟨p, xs, ds, hp, rfl, rfl, hr, rfl⟩ | ⟨p, xs, ds, hp, rfl, rfl, hr, rfl⟩
  · exact ⟨F, io, .refl .., s, by unfold VR; rw [h2]; exact h3⟩
  · have x := ext_new (F := F) (io := io) (o := .lst xs) hp s.cel.dom
    refine ⟨F, io, x, s.newObj hp, ?_⟩
    show OwR K z _ F io e σ (.ref p) (.lst ds)
    refine ⟨p, rfl, ⟨xs, ds, upd_same, hr.ext x, rfl⟩, (s.cel.free hp).1, (s.cel.free hp).2, s.h0 hp, fun i d' q1 q2 => ?_⟩
    obtain ⟨b, g1, g2, _⟩ := s.ow i d' q1
    rw [q2] at g1
    cases g1
    obtain ⟨u, q⟩ := g2.there
    rw [hp] at q; cases q
  · have x := ext_new (F := F) (io := io) (o := .tup xs) hp s.cel.dom
    exact ⟨F, io, x, s.newObj hp, .tup (.inl (.inl upd_same)) (hr.ext x)⟩
end

/-! ## operators -/
section
variable {X : Cx}
/-- list + list -/
def rCatF (K : PySem.W.Frag) : R2 := fun x y H Q => ∃ l b xs zs, x = .ref l ∧ y = .ref b ∧ SqL K H l xs ∧ SqL K H b zs ∧ xs.length + zs.length ≤ sizeLine ∧ ∀ p, H p = none → Q (.ref p) (upd H p (.lst (xs ++ zs)))
theorem op_catF : OpR X (binaryOp .Add) (rCatF X.K) := by
  intro pins s σ H x y v u Q I rx ry h
  obtain ⟨l, b, xs, zs, rfl, rfl, hH, hB, hz, q⟩ := h
  cases rx
  cases ry
  obtain ⟨its, r, ⟨⟨c1, d1, dt1, sl1⟩, n, e, hc, hdd, hd⟩, z⟩ := I.list hH
  obtain ⟨its2, r2, ⟨⟨c2, d2, dt2, sl2⟩, n2, e2, hc2, hdd2, hd2⟩, z2⟩ := I.list hB
  simp only at hc hd hc2 hd2
  subst hc hd hc2 hd2
  have hl := r.length
  have hl2 := r2.length
  have ea : its.toArray ++ its2.toArray = (its ++ its2).toArray := by simp
  refine concat_meets ⟨_, e, rfl⟩ ⟨_, e2, rfl⟩ noFill_list_add seq_list_add PySem.F.slot_list_add PySem.F.entry_list_add (PySem.F.args_list_add_2 _ _) (list_addW l b its.toArray its2.toArray n n2 d1 d2 sl1 sl2 (by simp; omega)) ⟨e, e2, ?_⟩
  rw [ea]
  exact ⟨.ref _, _, I.lnew (t' := s.toks) (r.append r2) (by rw [List.length_append]; omega), rfl, q _ I.fresh⟩
theorem OpR.imp {f : Value → Value → Sem Value} {r r' : R2} (h : OpR X f r) (i : ∀ x y H Q, r' x y H Q → r x y H Q) : OpR X f r' := fun pins s σ H x y v u Q I rx ry q => h pins s σ H x y v u Q I rx ry (i _ _ _ _ q)
/-- what an operator is asked -/
def rBin (K : PySem.W.Frag) (op : Operator) : R2 := fun x y H Q => ∃ F io dx dy r, RO K H F io x dx ∧ RO K H F io y dy ∧ binD op dx dy = some r ∧ ∀ v H', NV K H F io r v H' → Q v H'
theorem CMul.lit {i j : Int} (h : (-litI < i ∧ i < litI) ∨ (-litI < j ∧ j < litI)) : CMul i j := by
  unfold litI at h; exact h
theorem op_bin (op : Operator) : OpR X (binaryOp op) (rBin X.K op) := by
  have key : ∀ {g : R2}, OpR X (binaryOp op) g → (∀ x y H Q, rBin X.K op x y H Q → g x y H Q) → OpR X (binaryOp op) (rBin X.K op) := fun h i => OpR.imp h i
  cases op with
  | Add =>
    refine key (((op_add (X := X)).or op_add_str).or (op_catF.or op_catA)) ?_
    rintro x y H Q ⟨F, io, dx, dy, r, hx, hy, e, q⟩
    cases dx <;> cases dy <;> simp only [binD, nul] at e <;> try contradiction
    · cases e
      exact .inl (.inl ⟨_, _, hx.int, hy.int, q _ _ (.int _)⟩)
    · split at e
      · rename_i hl; cases e
        exact .inl (.inr ⟨_, _, hx.str, hy.str, by rw [← sizeMax_eq]; exact hl, q _ _ (.str _)⟩)
      · contradiction
    · split at e
      · rename_i hl; cases e
        obtain ⟨a, xs, rfl, ha, ra⟩ := hx.tup
        obtain ⟨b, ys, rfl, hb, rb⟩ := hy.tup
        refine .inr (.inr ⟨a, b, xs, ys, rfl, rfl, ha, hb, by rw [← sizeMax_eq, ra.length, rb.length]; exact hl, fun h0 => ?_, fun h1 h0 => ?_, fun h1 h2 p hp => ?_⟩)
        · subst h0; cases ra
          exact q _ _ (.val (.tup hb rb))
        · subst h0; cases rb
          rw [List.append_nil] at q
          exact q _ _ (.val (.tup ha ra))
        · exact q _ _ (.tup hp (ra.append rb))
      · contradiction
    · split at e
      · rename_i hl; cases e
        obtain ⟨a, xs, rfl, ha, ra⟩ := hx.lst
        obtain ⟨b, ys, rfl, hb, rb⟩ := hy.lst
        exact .inr (.inl ⟨a, b, xs, ys, rfl, rfl, ha, hb, by rw [← sizeMax_eq, ra.length, rb.length]; exact hl, fun p hp => q _ _ (.lst hp (ra.append rb))⟩)
      · contradiction
  | Sub =>
    refine key op_sub ?_
    rintro x y H Q ⟨F, io, dx, dy, r, hx, hy, e, q⟩
    cases dx <;> cases dy <;> simp only [binD, nul] at e <;> try contradiction
    cases e; exact ⟨_, _, hx.int, hy.int, q _ _ (.int _)⟩
  | Mult =>
    refine key op_mul ?_
    rintro x y H Q ⟨F, io, dx, dy, r, hx, hy, e, q⟩
    cases dx <;> cases dy <;> simp only [binD, nul] at e <;> try contradiction
    split at e
    · rename_i hl; cases e; exact ⟨_, _, hx.int, hy.int, CMul.lit hl, q _ _ (.int _)⟩
    · contradiction
  | FloorDiv =>
    refine key op_fdivW ?_
    rintro x y H Q ⟨F, io, dx, dy, r, hx, hy, e, q⟩
    cases dx <;> cases dy <;> simp only [binD, nul] at e <;> try contradiction
    split at e
    · rename_i hl; cases e
      refine ⟨_, _, hx.int, hy.int, wide_div (b := 100) hl.1 ?_ (by decide) (by decide), q _ _ (.int _)⟩
      have : (2 : Nat) ^ 100 = 1267650600228229401496703205376 := by decide
      rw [this]
      have h2 := hl.2
      unfold wideI at h2
      have h1 := hl.1
      omega
    · contradiction
  | Mod =>
    refine key op_mod ?_
    rintro x y H Q ⟨F, io, dx, dy, r, hx, hy, e, q⟩
    cases dx <;> cases dy <;> simp only [binD, nul] at e <;> try contradiction
    split at e
    · rename_i hl; cases e; exact ⟨_, _, hx.int, hy.int, hl, q _ _ (.int _)⟩
    · contradiction
  | BitAnd =>
    refine key op_and ?_
    rintro x y H Q ⟨F, io, dx, dy, r, hx, hy, e, q⟩
    cases dx <;> cases dy <;> simp only [binD, nul] at e <;> try contradiction
    cases e; exact ⟨_, _, hx.int, hy.int, q _ _ (.int _)⟩
  | BitOr =>
    refine key op_or ?_
    rintro x y H Q ⟨F, io, dx, dy, r, hx, hy, e, q⟩
    cases dx <;> cases dy <;> simp only [binD, nul] at e <;> try contradiction
    cases e; exact ⟨_, _, hx.int, hy.int, q _ _ (.int _)⟩
  | BitXor =>
    refine key op_xor ?_
    rintro x y H Q ⟨F, io, dx, dy, r, hx, hy, e, q⟩
    cases dx <;> cases dy <;> simp only [binD, nul] at e <;> try contradiction
    cases e; exact ⟨_, _, hx.int, hy.int, q _ _ (.int _)⟩
  | LShift =>
    refine key op_shl ?_
    rintro x y H Q ⟨F, io, dx, dy, r, hx, hy, e, q⟩
    cases dx <;> cases dy <;> simp only [binD, nul] at e <;> try contradiction
    split at e
    · rename_i hl; cases e
      refine ⟨_, _, hx.int, hy.int, ⟨hl.1.1, hl.1.2, ?_⟩, q _ _ (.int _)⟩
      have h := hl.2
      unfold litI at h
      have : (2 : Nat) ^ 64 = 18446744073709551616 := by decide
      omega
    · contradiction
  | RShift =>
    refine key op_shr ?_
    rintro x y H Q ⟨F, io, dx, dy, r, hx, hy, e, q⟩
    cases dx <;> cases dy <;> simp only [binD, nul] at e <;> try contradiction
    split at e
    · rename_i hl; cases e; exact ⟨_, _, hx.int, hy.int, hl, q _ _ (.int _)⟩
    · contradiction
  | _ =>
    intro pins s σ H x y v u Q I rx ry h
    obtain ⟨F, io, dx, dy, r, hx, hy, e, q⟩ := h
    cases dx <;> cases dy <;> simp [binD] at e
end
end Pv
namespace Pv
open PySem PySem.Spec PyProof.Rows L2

/-! ## == -/
mutual
def D.py : D → PyData
  | .none => .none
  | .bool b => .bool b
  | .int i => .int i
  | .str x => .str x
  | .tup xs => .tuple (pyL xs)
  | .lst xs => .list (pyL xs)
  | _ => .none
def pyL : List D → List PyData
  | [] => []
  | x :: xs => x.py :: pyL xs
end
theorem pyL_map : ∀ xs : List D, pyL xs = xs.map D.py
  | [] => rfl
  | x :: xs => by simp [pyL, pyL_map xs]
mutual
theorem fine_lay : ∀ {d : D} {k : Nat}, d.fine k = true → d.py.canLay0 = true ∧ d.py.depth ≤ k
  | .none, _, _ => ⟨rfl, Nat.zero_le _⟩
  | .bool _, _, _ => ⟨rfl, Nat.zero_le _⟩
  | .int _, _, _ => ⟨rfl, Nat.zero_le _⟩
  | .str x, k, h => ⟨by cases k <;> exact h, Nat.zero_le _⟩
  | .tup xs, 0, h => by simp [D.fine] at h
  | .tup xs, k + 1, h => by
    have := fineL_lay (ds := xs) (k := k) (by simpa [D.fine] using h)
    exact ⟨this.1, Nat.succ_le_succ this.2⟩
  | .lst xs, 0, h => by simp [D.fine] at h
  | .lst xs, k + 1, h => by
    have := fineL_lay (ds := xs) (k := k) (by simpa [D.fine] using h)
    exact ⟨this.1, Nat.succ_le_succ this.2⟩
  | .dic _, k, h => by cases k <;> simp [D.fine] at h
  | .loc _, k, h => by cases k <;> simp [D.fine] at h
  | .ty _, k, h => by cases k <;> simp [D.fine] at h
theorem fineL_lay : ∀ {ds : List D} {k : Nat}, fineL k ds = true → PyData.canLayAll0 (pyL ds) = true ∧ PyData.depthAll (pyL ds) ≤ k
  | [], _, _ => ⟨rfl, Nat.zero_le _⟩
  | d :: ds, k, h => by
    simp only [fineL, Bool.and_eq_true] at h
    have h1 := fine_lay h.1
    have h2 := fineL_lay h.2
    refine ⟨?_, ?_⟩
    · show (d.py.canLay0 && PyData.canLayAll0 (pyL ds)) = true
      rw [h1.1, h2.1]; rfl
    · show max d.py.depth (PyData.depthAll (pyL ds)) ≤ k
      exact Nat.max_le.mpr ⟨h1.2, h2.2⟩
end
theorem fine_shaped {d : D} (h : d.fine 64 = true) : SeqAt.shaped d.py = true := by
  obtain ⟨a, b⟩ := fine_lay h
  unfold SeqAt.shaped
  rw [a, decide_eq_true b]; rfl
mutual
theorem eqv_py : ∀ {d e : D} {j k : Nat}, d.fine j = true → e.fine k = true → PyData.eqv d.py e.py = d.eqv e
  | .none, e, j, k, _, h => by cases e <;> first | rfl | (cases k <;> simp [D.fine] at h)
  | .bool b, e, j, k, _, h => by cases e <;> first | rfl | (cases k <;> simp [D.fine] at h)
  | .int i, e, j, k, _, h => by
    cases e with
    | int i' => show (i == i') = decide (i = i'); rw [Bool.beq_eq_decide_eq]
    | _ => first | rfl | (cases k <;> simp [D.fine] at h)
  | .str x, e, j, k, _, h => by
    cases e with
    | str y => show (x == y) = decide (x = y); rw [Bool.beq_eq_decide_eq]
    | _ => first | rfl | (cases k <;> simp [D.fine] at h)
  | .tup xs, e, 0, k, h', h => by simp [D.fine] at h'
  | .tup xs, e, j + 1, 0, h', h => by
    cases e with
    | tup ys => simp [D.fine] at h
    | lst ys => simp [D.fine] at h
    | _ => first | rfl | simp [D.fine] at h
  | .tup xs, e, j + 1, k + 1, h', h => by
    cases e with
    | tup ys => exact eqvL_py (j := j) (k := k) (by simpa [D.fine] using h') (by simpa [D.fine] using h)
    | _ => first | rfl | simp [D.fine] at h
  | .lst xs, e, 0, k, h', h => by simp [D.fine] at h'
  | .lst xs, e, j + 1, 0, h', h => by
    cases e with
    | tup ys => simp [D.fine] at h
    | lst ys => simp [D.fine] at h
    | _ => first | rfl | simp [D.fine] at h
  | .lst xs, e, j + 1, k + 1, h', h => by
    cases e with
    | lst ys => exact eqvL_py (j := j) (k := k) (by simpa [D.fine] using h') (by simpa [D.fine] using h)
    | _ => first | rfl | simp [D.fine] at h
  | .dic _, _, j, _, h, _ => by cases j <;> simp [D.fine] at h
  | .loc _, _, j, _, h, _ => by cases j <;> simp [D.fine] at h
  | .ty _, _, j, _, h, _ => by cases j <;> simp [D.fine] at h
theorem eqvL_py : ∀ {ds es : List D} {j k : Nat}, fineL j ds = true → fineL k es = true → PyData.eqvAll (pyL ds) (pyL es) = eqvL ds es
  | [], [], _, _, _, _ => rfl
  | [], _ :: _, _, _, _, _ => rfl
  | _ :: _, [], _, _, _, _ => rfl
  | d :: ds, e :: es, j, k, h, h' => by
    simp only [fineL, Bool.and_eq_true] at h h'
    show (PyData.eqv d.py e.py && PyData.eqvAll (pyL ds) (pyL es)) = (d.eqv e && eqvL ds es)
    rw [eqv_py h.1 h'.1, eqvL_py h.2 h'.2]
end
section
variable {K : PySem.W.Frag} {F : Zn} {io : List Addr} {H : Hp}
mutual
theorem Rep.dp : ∀ {d : D} {k : Nat} {v : V}, d.fine k = true → Rep K H F io v d → Dp K H v d.py
  | .none, _, _, _, h => by cases h; exact .non
  | .bool _, _, _, _, h => by cases h; exact .bl _
  | .int _, _, _, _, h => by cases h; exact .int _
  | .str _, _, _, _, h => by cases h; exact .str _
  | .ty _, k, _, f, h => by cases k <;> simp [D.fine] at f
  | .tup ds, 0, _, f, h => by simp [D.fine] at f
  | .tup ds, k + 1, _, f, h => by
    cases h with
    | tup s l => exact .tup s (RepL.dp (k := k) (by simpa [D.fine] using f) l)
  | .lst ds, 0, _, f, h => by simp [D.fine] at f
  | .lst ds, k + 1, _, f, h => by
    cases h with
    | lst s l => exact .lst s.sq (RepL.dp (k := k) (by simpa [D.fine] using f) l)
  | .dic _, k, _, f, h => by cases k <;> simp [D.fine] at f
  | .loc n, k, _, f, h => by cases k <;> simp [D.fine] at f
theorem RepL.dp : ∀ {ds : List D} {k : Nat} {vs : List V}, fineL k ds = true → RepL K H F io vs ds → DpAll K H vs (pyL ds)
  | [], _, _, _, h => by cases h; exact .nil
  | d :: ds, _, _, f, h => by
    cases h with
    | cons a b =>
      simp only [fineL, Bool.and_eq_true] at f
      exact .cons (Rep.dp f.1 a) (RepL.dp f.2 b)
end
theorem RO.dp {d : D} {v : V} (f : d.fine 64 = true) (h : RO K H F io v d) : Dp K H v d.py := by
  rcases h with h | ⟨a, rfl, xs, es, h, r, q⟩
  · exact h.dp f
  · subst q
    exact .lst (.inl (.inl h)) (RepL.dp (k := 63) (by simpa [D.fine] using f) r)
theorem RO.non_iff {d : D} {v : V} (h : RO K H F io v d) : decide (v = .non) = d.isN := by
  rcases h with h | ⟨a, rfl, xs, es, h, r, q⟩
  · cases h <;> simp [D.isN]
  · subst q; simp [D.isN]
end
section
variable {X : Cx}
/-- x in a list or tuple of data -/
def rInT (K : PySem.W.Frag) (neg : Bool) : R2 := fun x y H Q => ∃ d ds, Dp K H x d ∧ (Dp K H y (.list ds) ∨ Dp K H y (.tuple ds)) ∧ SeqAt.shaped d = true ∧ PyData.canLayAll0 ds = true ∧ Q (.bl (if neg then !ds.any fun z => PyData.eqv z d else ds.any fun z => PyData.eqv z d)) H
theorem room_in {A : Around} {d : PyData} {n : Nat} (sd : SeqAt.shaped d = true) (hu : A.units + 65 < cLine) : A.units + 1 + min n d.depth < cLine := by
  have h1 := SeqAt.depth_of_shaped sd
  have h2 : min n d.depth ≤ d.depth := Nat.min_le_right _ _
  omega
theorem op_inT (hu : X.A.units + 65 < cLine) : OpR X (compareOp .In) (rInT X.K false) := by
  intro pins s σ H x y v u Q I rx ry h
  obtain ⟨d, ds, hd, he, sd, se, q⟩ := h
  obtain ⟨as, r1⟩ := Dp.reads I d x v hd rx
  rcases he with he | he
  · obtain ⟨bs, r2⟩ := Dp.reads I (.list ds) y u he ry
    exact SeqAt.in_list_reads r2 r1 se (SeqAt.canLay_of_shaped sd) (room_in sd hu) ⟨.bl _, H, I, rfl, q⟩
  · obtain ⟨bs, r2⟩ := Dp.reads I (.tuple ds) y u he ry
    exact SeqAt.in_tuple_reads r2 r1 se (SeqAt.canLay_of_shaped sd) (room_in sd hu) ⟨.bl _, H, I, rfl, q⟩
theorem op_notInT (hu : X.A.units + 65 < cLine) : OpR X (compareOp .NotIn) (rInT X.K true) := by
  intro pins s σ H x y v u Q I rx ry h
  obtain ⟨d, ds, hd, he, sd, se, q⟩ := h
  obtain ⟨as, r1⟩ := Dp.reads I d x v hd rx
  rcases he with he | he
  · obtain ⟨bs, r2⟩ := Dp.reads I (.list ds) y u he ry
    exact SeqAt.notIn_list_reads r2 r1 se (SeqAt.canLay_of_shaped sd) (room_in sd hu) ⟨.bl _, H, I, rfl, q⟩
  · obtain ⟨bs, r2⟩ := Dp.reads I (.tuple ds) y u he ry
    exact SeqAt.notIn_tuple_reads r2 r1 se (SeqAt.canLay_of_shaped sd) (room_in sd hu) ⟨.bl _, H, I, rfl, q⟩
def rCmp (K : PySem.W.Frag) (op : CmpOp) : R2 := fun x y H Q => ∃ F io dx dy b, RO K H F io x dx ∧ RO K H F io y dy ∧ cmpD op dx dy = some b ∧ Q (.bl b) H
theorem any_py {x : D} {xs : List D} {j k : Nat} (hx : x.fine j = true) : fineL k xs = true → ((pyL xs).any fun z => PyData.eqv z x.py) = xs.any fun y => y.eqv x := by
  induction xs with
  | nil => intro _; rfl
  | cons y ys ih =>
    intro h
    simp only [fineL, Bool.and_eq_true] at h
    simp only [pyL, List.any_cons]
    rw [eqv_py h.1 hx, ih h.2]
theorem op_cmp (hu : X.A.units + 65 < cLine) (op : CmpOp) : OpR X (compareOp op) (rCmp X.K op) := by
  have hu' : X.A.units + 64 < cLine := by omega
  have key : ∀ {g : R2}, OpR X (compareOp op) g → (∀ x y H Q, rCmp X.K op x y H Q → g x y H Q) → OpR X (compareOp op) (rCmp X.K op) := fun h i => OpR.imp h i
  have mem : ∀ {H : Hp} {F io x y dx dy b}, RO X.K H F io x dx → RO X.K H F io y dy → inD dx dy = some b →
      ∃ d ds, Dp X.K H x d ∧ (Dp X.K H y (.list ds) ∨ Dp X.K H y (.tuple ds)) ∧ SeqAt.shaped d = true ∧ PyData.canLayAll0 ds = true ∧ (ds.any fun z => PyData.eqv z d) = b := by
    intro H F io x y dx dy b hx hy e
    cases dy <;> simp only [inD] at e <;> try contradiction
    · rename_i xs
      unfold memD at e
      split at e
      · rename_i hf
        simp only [Bool.and_eq_true] at hf
        cases e
        obtain ⟨a, vs, rfl, ha, ra⟩ := hy.tup
        exact ⟨dx.py, pyL xs, hx.dp hf.1, .inr (.tup ha (RepL.dp hf.2 ra)), fine_shaped hf.1, (fineL_lay hf.2).1, any_py hf.1 hf.2⟩
      · contradiction
    · rename_i xs
      unfold memD at e
      split at e
      · rename_i hf
        simp only [Bool.and_eq_true] at hf
        cases e
        obtain ⟨a, vs, rfl, ha, ra⟩ := hy.lst
        exact ⟨dx.py, pyL xs, hx.dp hf.1, .inl (.lst ha (RepL.dp hf.2 ra)), fine_shaped hf.1, (fineL_lay hf.2).1, any_py hf.1 hf.2⟩
      · contradiction
    · rename_i kvs
      exfalso
      rcases hy with hy | ⟨_, _, _, _, _, _, q⟩
      · cases hy
      · cases q
  cases op with
  | Eq =>
    refine key (op_eqD hu') ?_
    rintro x y H Q ⟨F, io, dx, dy, b, hx, hy, e, q⟩
    simp only [cmpD, eqD] at e
    split at e
    · rename_i hf
      simp only [Bool.and_eq_true] at hf
      cases e
      exact ⟨_, _, hx.dp hf.1, hy.dp hf.2, fine_shaped hf.1, fine_shaped hf.2, by rw [eqv_py hf.1 hf.2]; exact q⟩
    · contradiction
  | NotEq =>
    refine key (op_neD hu') ?_
    rintro x y H Q ⟨F, io, dx, dy, b, hx, hy, e, q⟩
    simp only [cmpD, eqD] at e
    split at e
    · rename_i hf
      simp only [Bool.and_eq_true] at hf
      cases e
      exact ⟨_, _, hx.dp hf.1, hy.dp hf.2, fine_shaped hf.1, fine_shaped hf.2, by rw [eqv_py hf.1 hf.2]; exact q⟩
    · contradiction
  | Lt =>
    refine key op_lt ?_
    rintro x y H Q ⟨F, io, dx, dy, b, hx, hy, e, q⟩
    cases dx <;> cases dy <;> simp only [cmpD] at e <;> try contradiction
    cases e; exact ⟨_, _, hx.int, hy.int, q⟩
  | LtE =>
    refine key op_le ?_
    rintro x y H Q ⟨F, io, dx, dy, b, hx, hy, e, q⟩
    cases dx <;> cases dy <;> simp only [cmpD] at e <;> try contradiction
    cases e; exact ⟨_, _, hx.int, hy.int, q⟩
  | Gt =>
    refine key op_gt ?_
    rintro x y H Q ⟨F, io, dx, dy, b, hx, hy, e, q⟩
    cases dx <;> cases dy <;> simp only [cmpD] at e <;> try contradiction
    cases e; exact ⟨_, _, hx.int, hy.int, q⟩
  | GtE =>
    refine key op_ge ?_
    rintro x y H Q ⟨F, io, dx, dy, b, hx, hy, e, q⟩
    cases dx <;> cases dy <;> simp only [cmpD] at e <;> try contradiction
    cases e; exact ⟨_, _, hx.int, hy.int, q⟩
  | Is =>
    refine key op_isN ?_
    rintro x y H Q ⟨F, io, dx, dy, b, hx, hy, e, q⟩
    cases dy <;> simp only [cmpD] at e <;> try contradiction
    cases e
    exact ⟨hy.none, by rw [hx.non_iff]; exact q⟩
  | IsNot =>
    refine key op_notN ?_
    rintro x y H Q ⟨F, io, dx, dy, b, hx, hy, e, q⟩
    cases dy <;> simp only [cmpD] at e <;> try contradiction
    cases e
    exact ⟨hy.none, by rw [hx.non_iff]; exact q⟩
  | In =>
    refine key (op_inT hu) ?_
    rintro x y H Q ⟨F, io, dx, dy, b, hx, hy, e, q⟩
    obtain ⟨d, ds, h1, h2, h3, h4, h5⟩ := mem hx hy (by simpa [cmpD] using e)
    exact ⟨d, ds, h1, h2, h3, h4, by rw [h5]; exact q⟩
  | NotIn =>
    refine key (op_notInT hu) ?_
    rintro x y H Q ⟨F, io, dx, dy, b, hx, hy, e, q⟩
    simp only [cmpD, Option.map_eq_some_iff] at e
    obtain ⟨c, e, rfl⟩ := e
    obtain ⟨d, ds, h1, h2, h3, h4, h5⟩ := mem hx hy e
    exact ⟨d, ds, h1, h2, h3, h4, by rw [h5]; exact q⟩
end
end Pv
namespace Pv
open PySem PySem.Spec PyProof.Rows L2

/-! ## results as wishes -/
def Res {α : Type} (r : R α) (P : α → En → Sto → Prop) (E : Xc → En → Sto → Prop) : Prop := match r with
  | .ok a e s => P a e s
  | .ex x e s => E x e s
  | .no => False
theorem Res.of_bind {α β : Type} {r : R α} {f : α → En → Sto → R β} {P : β → En → Sto → Prop} {E : Xc → En → Sto → Prop} (h : Res (r.bind f) P E) : Res r (fun a e s => Res (f a e s) P E) E := by
  cases r <;> exact h
theorem Res.mono {α : Type} {r : R α} {P P' : α → En → Sto → Prop} {E E' : Xc → En → Sto → Prop} (h : Res r P E) (hp : ∀ a e s, P a e s → P' a e s) (he : ∀ x e s, E x e s → E' x e s) : Res r P' E' := by
  cases r with
  | ok a e s => exact hp _ _ _ h
  | ex x e s => exact he _ _ _ h
  | no => exact h
theorem Res.of_of {o : Option DB} {e : En} {s : Sto} {P : DB → En → Sto → Prop} {E : Xc → En → Sto → Prop} (h : Res (R.of o e s) P E) : ∃ r, o = some r ∧ P r e s := by
  cases o with
  | none => exact h.elim
  | some r => exact ⟨r, rfl, h⟩

/-- what stays the same through a def: the module, the tables, the entry, what is wished of an exception -/
structure Px where
  K : PySem.W.Frag
  mg : Str → Option Value
  B : Tab
  G : Glb
  z : Zo
  W : WX
  dn : Str → Bool
/-- an exception of the text's own -/
def XR (K : PySem.W.Frag) (mg : Str → Option Value) (H : Hp) (F : Zn) (io : List Addr) (x : Xc) (cls : Value) (d : Option Addr) : Prop :=
  ∃ (C dd : Addr) (fs : List (Str × V)), mg x.c = some (.ref C) ∧ cls = .ref C ∧ d = some dd ∧ H dd = some (.xd fs) ∧ fs.map (·.1) = x.fs.map (·.1) ∧ RepL K H F io (fs.map (·.2)) (x.fs.map (·.2))
def PoX (p : Px) (F : Zn) (io : List Addr) (H : Hp) (e' : En) (st' : Sto) (σ : L2.St) (x : Xc) (cls : Value) (d : Option Addr) (H' : Hp) : Prop :=
  ∃ F' io', Ext F io H F' io' H' ∧ SR p.K p.z F' io' e' st' σ H' ∧ XR p.K p.mg H' F' io' x cls d
def XW (p : Px) (F : Zn) (io : List Addr) (H : Hp) (σ : L2.St) : Xc → En → Sto → Prop := fun x e' st' => ∀ cls d H', PoX p F io H e' st' σ x cls d H' → p.W cls d σ H'
/-- the reading of an expression by the evaluator -/
def tev (p : Px) (c : E) : TE := fun σ H Q => ∃ F io e st, SR p.K p.z F io e st σ H ∧
  Res (ev p.B p.G c e st) (fun r e' st' => ∀ v H', PoE p.K p.z F io H e' st' σ r v H' → Q v H') (XW p F io H σ)
def tar (p : Px) : E → TE
  | .var i => tVar i
  | a => tev p a
def ArR (K : PySem.W.Frag) (H : Hp) (F : Zn) (io : List Addr) (σ : L2.St) (v : V) : Ar → Prop
  | .v d => Rep K H F io v d
  | .s i => σ[i]? = some (some v)
def ArL (K : PySem.W.Frag) (H : Hp) (F : Zn) (io : List Addr) (σ : L2.St) : List V → List Ar → Prop
  | [], [] => True
  | v :: vs, a :: as => ArR K H F io σ v a ∧ ArL K H F io σ vs as
  | _, _ => False
def PoA (K : PySem.W.Frag) (z : Zo) (F : Zn) (io : List Addr) (H : Hp) (e' : En) (st' : Sto) (σ : L2.St) (as : List Ar) (vs : List V) (H' : Hp) : Prop :=
  ∃ F' io', Ext F io H F' io' H' ∧ SR K z F' io' e' st' σ H' ∧ ArL K H' F' io' σ vs as
def tag (p : Px) (c : Es) : TA := fun σ H Q => ∃ F io e st, SR p.K p.z F io e st σ H ∧
  Res (ag p.B p.G c e st) (fun as e' st' => ∀ vs H', PoA p.K p.z F io H e' st' σ as vs H' → Q vs H') (XW p F io H σ)

section
variable {p : Px} {X : Cx} {F F' : Zn} {io io' : List Addr} {H H' : Hp} {e : En} {st : Sto} {σ : L2.St}
theorem XW.ext {x : Xc} {e' : En} {st' : Sto} (y : Ext F io H F' io' H') (h : XW p F io H σ x e' st') : XW p F' io' H' σ x e' st' := fun cls d H2 ⟨F2, io2, y2, s, r⟩ => h cls d H2 ⟨F2, io2, y.trans y2, s, r⟩
theorem PoE.ext {e' : En} {st' : Sto} {r : DB} {v : V} {H2 : Hp} (y : Ext F io H F' io' H') (h : PoE p.K p.z F' io' H' e' st' σ r v H2) : PoE p.K p.z F io H e' st' σ r v H2 :=
  let ⟨F2, io2, y2, s, q⟩ := h; ⟨F2, io2, y.trans y2, s, q⟩
theorem ArR.ext {v : V} {a : Ar} (y : Ext F io H F' io' H') (h : ArR p.K H F io σ v a) : ArR p.K H' F' io' σ v a := by
  cases a with
  | v d => exact Rep.ext y h
  | s i => exact h
theorem ArL.ext (y : Ext F io H F' io' H') : ∀ {as : List Ar} {vs : List V}, ArL p.K H F io σ vs as → ArL p.K H' F' io' σ vs as
  | [], [], _ => trivial
  | a :: as, v :: vs, ⟨h1, h2⟩ => ⟨ArR.ext y h1, ArL.ext y h2⟩
  | [], _ :: _, h => h
  | _ :: _, [], h => h
theorem ArL.length {K : PySem.W.Frag} : ∀ {as : List Ar} {vs : List V}, ArL K H F io σ vs as → vs.length = as.length
  | [], [], _ => rfl
  | a :: as, v :: vs, ⟨h1, h2⟩ => by simp [ArL.length h2]
  | [], _ :: _, h => h.elim
  | _ :: _, [], h => h.elim
theorem tev.mono {c : E} {Q Q' : VK} (h : tev p c σ H Q) (m : ∀ v H', Q v H' → Q' v H') : tev p c σ H Q' := by
  obtain ⟨F, io, e, st, s, r⟩ := h
  exact ⟨F, io, e, st, s, r.mono (fun a e' st' k v H' q => m _ _ (k v H' q)) fun _ _ _ x => x⟩
theorem tar.mono {c : E} {Q Q' : VK} (h : tar p c σ H Q) (m : ∀ v H', Q v H' → Q' v H') : tar p c σ H Q' := by
  unfold tar at h ⊢
  split at h
  · obtain ⟨v, e, q⟩ := h; exact ⟨v, e, m _ _ q⟩
  · exact h.mono m
theorem tag.mono {c : Es} {Q Q' : List V → Hp → Prop} (h : tag p c σ H Q) (m : ∀ v H', Q v H' → Q' v H') : tag p c σ H Q' := by
  obtain ⟨F, io, e, st, s, r⟩ := h
  exact ⟨F, io, e, st, s, r.mono (fun a e' st' k v H' q => m _ _ (k v H' q)) fun _ _ _ x => x⟩
theorem PE.imp {ex : Expr} {t t' : TE} (h : PE X ex t) (i : ∀ σ H Q, t' σ H Q → t σ H Q) : PE X ex t' := ⟨fun pins s σ H Q I q => h.run pins s σ H Q I (i _ _ _ q)⟩
theorem PA.imp {es : List Expr} {t t' : TA} (h : PA X es t) (i : ∀ σ H Q, t' σ H Q → t σ H Q) : PA X es t' := ⟨fun pos pins s σ H Q I q => h.run pos pins s σ H Q I (i _ _ _ q)⟩

theorem ag_cons (B : Tab) (G : Glb) {a : E} (h : ∀ i, a ≠ .var i) (r : Es) (e : En) (s : Sto) : ag B G (.cons a r) e s = (ev B G a e s).bind fun d e s => (ag B G r e s).bind fun as e s => .ok (.v d.1 :: as) e s := by
  cases a <;> first | rfl | exact absurd rfl (h _)
theorem isDef_slot {i : Nat} (s : SR p.K p.z F io e st σ H) (h : isDef e i = true) : ∃ v, σ[i]? = some (some v) := by
  unfold isDef at h
  split at h
  · rename_i d hd; obtain ⟨v, h1, _⟩ := s.fr i d hd; exact ⟨v, h1⟩
  · rename_i d hd; obtain ⟨v, h1, _⟩ := s.ow i d hd; exact ⟨_, h1⟩
  · cases h
theorem tag_cons {a : E} {r : Es} {Q : List V → Hp → Prop} (h : tag p (.cons a r) σ H Q) : tar p a σ H fun x H1 => tag p r σ H1 fun xs H2 => Q (x :: xs) H2 := by
  obtain ⟨F, io, e, st, s, h⟩ := h
  by_cases ha : ∃ i, a = .var i
  · obtain ⟨i, rfl⟩ := ha
    rw [ag] at h
    split at h
    · rename_i hd
      obtain ⟨v, hv⟩ := isDef_slot s hd
      refine ⟨v, hv, F, io, e, st, s, h.of_bind.mono (fun as e' st' k vs H' ⟨F', io', y, s', q⟩ => k _ H' ⟨F', io', y, s', hv, q⟩) fun _ _ _ x => x⟩
    · exact h.elim
  · have ha' : ∀ i, a ≠ .var i := fun i z => ha ⟨i, z⟩
    rw [ag_cons _ _ ha'] at h
    have e1 : tar p a = tev p a := by
      unfold tar; cases a <;> first | rfl | exact absurd rfl (ha' _)
    rw [e1]
    refine ⟨F, io, e, st, s, h.of_bind.mono (fun d e' st' k v H' po => ?_) fun _ _ _ x => x⟩
    obtain ⟨F', io', y, s', q⟩ := po.frz
    refine ⟨F', io', e', st', s', k.of_bind.mono (fun as e2 st2 k2 vs H2 ⟨F2, io2, y2, s2, q2⟩ => ?_) fun _ _ _ x => XW.ext y x⟩
    exact k2 _ H2 ⟨F2, io2, y.trans y2, s2, q.ext y2, q2⟩
theorem tag_nil {Q : List V → Hp → Prop} (h : tag p .nil σ H Q) : Q [] H := by
  obtain ⟨F, io, e, st, s, h⟩ := h
  exact h [] H ⟨F, io, .refl .., s, trivial⟩
theorem tag1 {a : E} {Q : List V → Hp → Prop} (h : tag p (.cons a .nil) σ H Q) : tar p a σ H fun x H1 => Q [x] H1 := (tag_cons h).mono fun _ _ q => tag_nil q
theorem tag2 {a b : E} {Q : List V → Hp → Prop} (h : tag p (.cons a (.cons b .nil)) σ H Q) : tar p a σ H fun x H1 => tar p b σ H1 fun y H2 => Q [x, y] H2 :=
  (tag_cons h).mono fun _ _ q => tag1 q
theorem tag3 {a b c : E} {Q : List V → Hp → Prop} (h : tag p (.cons a (.cons b (.cons c .nil))) σ H Q) : tar p a σ H fun x H1 => tar p b σ H1 fun y H2 => tar p c σ H2 fun w H3 => Q [x, y, w] H3 :=
  (tag_cons h).mono fun _ _ q => tag2 q

/-! ## the arguments' values -/
theorem rd1_fz1 (e : En) (i : Nat) (a : Ar) : rd1 (fz1 e i) a = rd1 e a := by
  unfold fz1
  split
  · rename_i d hd
    cases a with
    | v d => rfl
    | s j =>
      show ((e.set i (.fr d))[j]?).bind rdS = (e[j]?).bind rdS
      by_cases hj : i = j
      · subst hj
        rw [List.getElem?_set_self (List.getElem?_eq_some_iff.mp hd).1, hd]; rfl
      · rw [List.getElem?_set_ne hj]
  · rfl
theorem rd_fz1 (e : En) (i : Nat) : ∀ as : List Ar, rd (fz1 e i) as = rd e as
  | [] => rfl
  | a :: as => by simp only [rd, rd1_fz1, rd_fz1 e i as]
/-- the arguments are known to others from now on -/
theorem SR.fz {as : List Ar} : ∀ {F : Zn} {e : En} {vs : List V} {ds : List D}, SR p.K p.z F io e st σ H → ArL p.K H F io σ vs as → rd e as = some ds →
    ∃ F', Ext F io H F' io H ∧ SR p.K p.z F' io (Pv.fz e as) st σ H ∧ RepL p.K H F' io vs ds := by
  induction as with
  | nil =>
    intro F e vs ds s h r
    cases vs with
    | nil => cases r; exact ⟨F, .refl .., s, .nil⟩
    | cons _ _ => exact h.elim
  | cons a as ih =>
    intro F e vs ds s h r
    cases vs with
    | nil => exact h.elim
    | cons v vs =>
      obtain ⟨h1, h2⟩ := h
      simp only [rd, Option.bind_eq_some_iff, Option.map_eq_some_iff] at r
      obtain ⟨d, r1, ds', r2, rfl⟩ := r
      cases a with
      | v d' =>
        cases r1
        obtain ⟨F', y, s', q⟩ := ih s h2 r2
        exact ⟨F', y, s', .cons (Rep.ext y h1) q⟩
      | s i =>
        obtain ⟨F1, y1, s1⟩ := s.fz1 i
        have hr : rd (Pv.fz1 e i) as = some ds' := by rw [rd_fz1]; exact r2
        obtain ⟨F', y, s', q⟩ := ih s1 (ArL.ext y1 h2) hr
        refine ⟨F', y1.trans y, s', .cons (Rep.ext y ?_) q⟩
        have hv : rd1 (Pv.fz1 e i) (.s i) = some d := by rw [rd1_fz1]; exact r1
        simp only [rd1, Option.bind_eq_some_iff] at hv
        obtain ⟨sl, q1, q2⟩ := hv
        have hsl : sl = .fr d := by
          cases sl with
          | un => cases q2
          | fr x => cases q2; rfl
          | ow x =>
            exfalso
            unfold Pv.fz1 at q1
            split at q1
            · rename_i d' hd
              rw [List.getElem?_set_self (List.getElem?_eq_some_iff.mp hd).1] at q1
              cases q1
            · rename_i hn
              exact hn _ q1
        subst hsl
        obtain ⟨v', g1, g2⟩ := s1.fr i d q1
        have h1' : σ[i]? = some (some v) := h1
        rw [h1'] at g1
        cases g1
        exact g2
/-- .. or read -/
theorem SR.ro {as : List Ar} : ∀ {vs : List V} {ds : List D}, SR p.K p.z F io e st σ H → ArL p.K H F io σ vs as → rd e as = some ds → ROL p.K H F io vs ds := by
  induction as with
  | nil =>
    intro vs ds s h r
    cases vs with
    | nil => cases r; trivial
    | cons _ _ => exact h.elim
  | cons a as ih =>
    intro vs ds s h r
    cases vs with
    | nil => exact h.elim
    | cons v vs =>
      obtain ⟨h1, h2⟩ := h
      simp only [rd, Option.bind_eq_some_iff, Option.map_eq_some_iff] at r
      obtain ⟨d, r1, ds', r2, rfl⟩ := r
      refine ⟨?_, ih s h2 r2⟩
      cases a with
      | v d' => cases r1; exact .inl h1
      | s i =>
        simp only [rd1, Option.bind_eq_some_iff] at r1
        obtain ⟨sl, q1, q2⟩ := r1
        have h1' : σ[i]? = some (some v) := h1
        cases sl with
        | un => cases q2
        | fr x =>
          cases q2
          obtain ⟨v', g1, g2⟩ := s.fr i d q1
          rw [h1'] at g1; cases g1
          exact .inl g2
        | ow x =>
          cases q2
          obtain ⟨a, g1, g2, _⟩ := s.ow i d q1
          rw [h1'] at g1; cases g1
          exact .inr ⟨a, rfl, g2⟩
theorem RO.der {K : PySem.W.Frag} {v : V} {d d' : D} (c : Cel K F io st H) (h : RO K H F io v d) (q : der st d = some d') : RO K H F io v d' := by
  cases d with
  | loc n =>
    rcases h with h | ⟨_, _, _, _, _, _, q⟩
    · cases h with
      | loc e =>
        exact .inr ⟨_, rfl, c.cell n _ d' e q⟩
    · cases q
  | _ => cases q; exact h
theorem ROL.ders {K : PySem.W.Frag} (c : Cel K F io st H) : ∀ {ds ds' : List D} {vs : List V}, ROL K H F io vs ds → ders st ds = some ds' → ROL K H F io vs ds'
  | [], _, [], _, q => by cases q; trivial
  | [], _, _ :: _, h, _ => h.elim
  | _ :: _, _, [], h, _ => h.elim
  | d :: ds, _, v :: vs, ⟨h1, h2⟩, q => by
    simp only [Pv.ders, Option.bind_eq_some_iff, Option.map_eq_some_iff] at q
    obtain ⟨x, q1, xs, q2, rfl⟩ := q
    exact ⟨h1.der c q1, ROL.ders c h2 q2⟩
/-- an operation behind its arguments -/
def OpT (p : Px) (g : List D → Option DB) (σ : L2.St) (Q : VK) (vs : List V) (H2 : Hp) : Prop :=
  ∃ F io ds r, ROL p.K H2 F io vs ds ∧ g ds = some r ∧ ∀ v H', NV p.K H2 F io r v H' → Q v H'
theorem op_tag {es : Es} {g : List D → Option DB} {Q : VK} (s : SR p.K p.z F io e st σ H)
    (h : Res ((ag p.B p.G es e st).bind fun as e s => opR e s as fun ds => .of (g ds) e s) (fun r e' st' => ∀ v H', PoE p.K p.z F io H e' st' σ r v H' → Q v H') (XW p F io H σ)) :
    tag p es σ H (OpT p g σ Q) := by
  refine ⟨F, io, e, st, s, h.of_bind.mono (fun as e' st' k vs H' ⟨F', io', y, s', q⟩ => ?_) fun _ _ _ x => x⟩
  unfold opR at k
  split at k
  · rename_i ds hds
    obtain ⟨r, hr, k⟩ := k.of_of
    simp only [Option.bind_eq_some_iff] at hds
    obtain ⟨ds0, q1, q2⟩ := hds
    exact ⟨F', io', ds, r, (s'.ro q q1).ders s'.cel q2, hr, fun v H2 nv => k v H2 (PoE.ext y (NV.po s' nv))⟩
  · exact k.elim
end

/-! ## the rules -/
/-- expressions with their core terms -/
inductive PEs (X : Cx) (p : Px) : Es → List Expr → Prop
  | nil : PEs X p .nil []
  | cons {c : E} {r : Es} {ex : Expr} {l : List Expr} : PE X ex (tar p c) → (∀ es, starEach (ex :: es) X.env = (false, eval ex X.env) :: starEach es X.env) → PEs X p r l → PEs X p (.cons c r) (ex :: l)
section
variable {p : Px} {X : Cx} {es : Es} {c : E} {l : List Expr} {pos : Pos}
theorem PEs.pa (h : PEs X p es l) : PA X l (tag p es) := by
  induction h with
  | nil => exact PA.imp pa_nil fun _ _ _ q => tag_nil q
  | cons a s _ ih => exact PA.imp (pa_cons a ih (s _)) fun _ _ _ q => tag_cons q
theorem PEs.star (h : PEs X p es l) : starEach l X.env = l.map fun ex => (false, eval ex X.env) := by
  induction h with
  | nil => rfl
  | cons a s _ ih => rw [s, ih]; rfl
theorem PEs.plain (h : PEs X p es l) (pos : Pos) : (backTo pos (starEach l X.env)).any (·.1) = false := by
  rw [h.star]; unfold backTo
  induction l <;> simp_all
theorem PEs.two (h : PEs X p es [a, b]) : ∃ ca cb, es = .cons ca (.cons cb .nil) ∧ PE X a (tar p ca) ∧ PE X b (tar p cb) := by
  cases h with
  | cons h1 _ h =>
    cases h with
    | cons h2 _ h => cases h; exact ⟨_, _, rfl, h1, h2⟩
theorem PEs.one (h : PEs X p es [a]) : ∃ ca, es = .cons ca .nil ∧ PE X a (tar p ca) := by
  cases h with
  | cons h1 _ h => cases h; exact ⟨_, rfl, h1⟩
theorem pe_ebin {a b : Expr} {op : Operator} (hK : X.K = p.K) (h : PEs X p es [a, b]) : PE X (.BinOp a op b pos) (tev p (.bin op es)) := by
  obtain ⟨ca, cb, rfl, ha, hb⟩ := h.two
  refine PE.imp (pe_op (op_bin op) ha hb) fun σ H Q ⟨F, io, e, st, s, h⟩ => ?_
  rw [ev] at h
  refine (tag2 (op_tag s h)).mono fun x H1 q => q.mono fun y H2 q => ?_
  obtain ⟨F2, io2, ds, r, hr, hg, k⟩ := q
  match ds, hr, hg with
  | [d1, d2], ⟨r1, r2, _⟩, hg => exact ⟨F2, io2, d1, d2, r, hK ▸ r1, hK ▸ r2, hg, fun v H' nv => k v H' (hK ▸ nv)⟩
end
end Pv
namespace Pv
open PySem PySem.Spec PyProof.Rows L2

/-! ## a call -/
/-- behind a call: what was tracked stands, but for the store's objects; new things are new -/
structure ExtC (F : Zn) (io : List Addr) (H : Hp) (F' : Zn) (io' : List Addr) (H' : Hp) : Prop where
  ff : ∀ a, F a → F' a
  frm : ∀ a u, H a = some u → a ∉ io → H' a = some u
  io : ∃ l, io' = io ++ l ∧ ∀ a ∈ l, H a = none
  new : ∀ a, F' a → F a ∨ H a = none
def PoC (K : PySem.W.Frag) (F : Zn) (io : List Addr) (H : Hp) (st' : Sto) (r : DB) (v : V) (H' : Hp) : Prop :=
  ∃ F' io', ExtC F io H F' io' H' ∧ Cel K F' io' st' H' ∧
    (if r.2 then ∃ a, v = .ref a ∧ Ob K H' F' io' a r.1 ∧ ¬ F' a ∧ a ∉ io' ∧ H a = none else Rep K H' F' io' v r.1)
def PoCX (K : PySem.W.Frag) (mg : Str → Option Value) (F : Zn) (io : List Addr) (H : Hp) (st' : Sto) (x : Xc) (cls : Value) (d : Option Addr) (H' : Hp) : Prop :=
  ∃ F' io', ExtC F io H F' io' H' ∧ Cel K F' io' st' H' ∧ XR K mg H' F' io' x cls d
/-- a def's promise -/
def spT (K : PySem.W.Frag) (mg : Str → Option Value) (t : List D → Sto → Option (Rv × Sto)) : Sp := fun vs H Q E => ∃ F io ds st, Cel K F io st H ∧ RepL K H F io vs ds ∧
  match t ds st with
  | some (.rt d w, st') => ∀ v H', PoC K F io H st' (d, w) v H' → Q v H'
  | some (.rx x, st') => ∀ cls dd H', PoCX K mg F io H st' x cls dd H' → E cls dd H'
  | none => False
/-- what the rules ask of the frame -/
structure Sok (p : Px) (X : Cx) : Prop where
  K : X.K = p.K
  mg : X.mg = p.mg
  calm : X.calm = true
  nd : X.N.Nodup
  hu : X.A.units + 65 < cLine
  tk : Takes X p.W
  tab : ∀ f, p.dn f = true → ∃ a fd ps k, X.mg f = some (.ref a) ∧ FnOk X.prog X.w X.K X.mg X.base (L2.CX X.prog X.w) k a fd ps (spT X.K X.mg (p.B f)) ∧ Room k X.A ∧ PySem.W.keepIn X.K (.ref a) = true ∧ Binds X.K fd ps []
  glb : ∀ x d, p.G x = some d → (∃ u v, X.mg x = some u ∧ RelV v u ∧ ∀ H F io, Rep p.K H F io v d) ∨ (X.mg x = none ∧ x ≠ "__name__" ∧ ∃ u v, bootBuiltins x = some u ∧ RelV v u ∧ ∀ H F io, Rep p.K H F io v d)
  blt : ∀ x ∈ (["len", "abs", "int", "list", "tuple", "max", "min", "isinstance", "range", "reversed", "zip", "enumerate"] : List Str), X.mg x = none
section
variable {K : PySem.W.Frag} {z : Zo} {F F' : Zn} {io io' : List Addr} {H H' : Hp} {e : En} {st st' : Sto} {σ : L2.St}
theorem SR.ni0 (s : SR K z F io e st σ H) {a : Addr} {u : HO} (h : z.H0 a = some u) (n : a ∉ z.i0) : a ∉ io := by
  obtain ⟨l, e1, e2⟩ := s.pre
  rw [e1]
  intro hm
  rcases List.mem_append.mp hm with hm | hm
  · exact n hm
  · rw [e2 a hm] at h; cases h
theorem Cel.notup (c : Cel K F io st H) {a : Addr} {xs : List V} (h : Rd H a (.tup xs)) : a ∉ io := by
  intro hm
  obtain ⟨n, hn, e⟩ := List.mem_iff_getElem.mp hm
  have h1 : io[n]? = some a := by rw [List.getElem?_eq_getElem hn, e]
  have hn2 : n < st.length := by rw [← c.len]; exact hn
  obtain ⟨vs, ds, q, _⟩ := c.cell n a st[n] h1 (List.getElem?_eq_getElem hn2)
  rcases h with h | ⟨_, h⟩ <;> rw [q] at h <;> cases h
theorem rd_keep {a : Addr} {u : HO} (h : ∀ u, H a = some u → H' a = some u) (r : Rd H a u) : Rd H' a u := by
  rcases r with r | ⟨o, r⟩
  · exact .inl (h _ r)
  · exact .inr ⟨o, h _ r⟩
theorem ExtC.ext (c : Cel K F io st H) (x : ExtC F io H F' io' H') : Ext F io H F' io' H' := by
  refine ⟨x.ff, fun a u hf r => rd_keep (fun u q => x.frm a u q fun hm => c.nof a hm hf) r, fun a xs r => rd_keep (fun u q => x.frm a u q (c.notup r)) r, ?_⟩
  obtain ⟨l, e, _⟩ := x.io
  exact ⟨l, e⟩
theorem ExtC.frF (c : Cel K F io st H) (x : ExtC F io H F' io' H') {a : Addr} (h : ∃ u, H a = some u) (n : ¬ F a) : ¬ F' a := fun q => by
  obtain ⟨u, h⟩ := h
  rcases x.new a q with z | z
  · exact n z
  · rw [h] at z; cases z
theorem ExtC.frI (x : ExtC F io H F' io' H') {a : Addr} (h : ∃ u, H a = some u) (n : a ∉ io) : a ∉ io' := fun q => by
  obtain ⟨u, h⟩ := h
  obtain ⟨l, e, hl⟩ := x.io
  rw [e] at q
  rcases List.mem_append.mp q with z | z
  · exact n z
  · rw [hl a z] at h; cases h
/-- behind a call with the store -/
theorem SR.call (s : SR K z F io e st σ H) (x : ExtC F io H F' io' H') (c : Cel K F' io' st' H') : SR K z F' io' e st' σ H' := by
  have xx := x.ext s.cel
  refine ⟨c, s.el, fun i d q => ?_, fun i d q => ?_, s.sep, fun a u q n => ?_, ?_, fun a ha => (x.new a ha).elim (s.fnw a) fun q => .inr (s.h0 q)⟩
  · obtain ⟨v, h1, h2⟩ := s.fr i d q
    exact ⟨v, h1, h2.ext xx⟩
  · obtain ⟨a, h1, h2, h3, h4, h5⟩ := s.ow i d q
    refine ⟨a, h1, ?_, x.frF s.cel h2.there h3, x.frI h2.there h4, h5⟩
    obtain ⟨u, hu⟩ := h2.there
    exact h2.ext xx ((x.frm a u hu h4).trans hu.symm)
  · exact x.frm a u (s.frm a u q n) (s.ni0 q n)
  · obtain ⟨l, e1, e2⟩ := s.pre
    obtain ⟨m, e3, e4⟩ := x.io
    refine ⟨l ++ m, by rw [e3, e1, List.append_assoc], fun a hm => ?_⟩
    rcases List.mem_append.mp hm with hm | hm
    · exact e2 a hm
    · exact s.h0 (e4 a hm)
theorem SR.callR {r : DB} {v : V} (s : SR K z F io e st σ H) (h : PoC K F io H st' r v H') : PoE K z F io H e st' σ r v H' := by
  obtain ⟨F1, io1, x, c, q⟩ := h
  refine ⟨F1, io1, x.ext s.cel, s.call x c, ?_⟩
  unfold VR
  split at q
  · rename_i hw
    rw [if_pos hw]
    obtain ⟨a, rfl, ho, n1, n2, n3⟩ := q
    refine ⟨a, rfl, ho, n1, n2, s.h0 n3, fun i d' q1 q2 => ?_⟩
    obtain ⟨b, g1, g2, _⟩ := s.ow i d' q1
    rw [q2] at g1
    cases g1
    obtain ⟨u, q⟩ := g2.there
    rw [n3] at q; cases q
  · rename_i hw
    rw [if_neg hw]
    exact q
/-- where all that was tracked stands -/
theorem ext_grow (h : ∀ a u, H a = some u → H' a = some u) : Ext F io H F io H' := ⟨fun _ x => x, fun a u _ r => rd_keep (h a) r, fun a xs r => rd_keep (h a) r, [], by simp⟩
theorem SR.grow (s : SR K z F io e st σ H) (h : ∀ a u, H a = some u → H' a = some u) : SR K z F io e st σ H' := by
  have x := ext_grow (F := F) (io := io) h
  have ob : ∀ {b : Addr} {d : D}, Ob K H F io b d → Ob K H' F io b d := fun {b d} k => by
    obtain ⟨u, q⟩ := k.there
    exact k.ext x ((h b u q).trans q.symm)
  refine ⟨⟨fun b hb => ?_, s.cel.len, s.cel.nd, s.cel.nof, fun n b d h1 h2 => ob (s.cel.cell n b d h1 h2)⟩, s.el, fun i d q => ?_, fun i d q => ?_, s.sep, fun b u q n => h b u (s.frm b u q n), s.pre, s.fnw⟩
  · obtain ⟨u, q⟩ := s.cel.dom b hb
    exact ⟨u, h b u q⟩
  · obtain ⟨v, h1, h2⟩ := s.fr i d q
    exact ⟨v, h1, h2.ext x⟩
  · obtain ⟨b, h1, h2, h3⟩ := s.ow i d q
    exact ⟨b, h1, ob h2, h3⟩
theorem tight_imm {d : D} {w : Bool} (h : tight d w = true) : d.imm = true ∨ (w = true ∧ ∃ xs, d = .lst xs ∧ immL xs = true) := by
  unfold tight at h
  simp only [Bool.or_eq_true, Bool.and_eq_true] at h
  rcases h with h | ⟨h1, h2⟩
  · exact .inl h
  · cases d <;> simp at h2
    exact .inr ⟨h1, _, rfl, h2⟩
/-- behind a pure call whose answer knows none of the lists -/
theorem SR.callT {F1 : Zn} {r : DB} {v : V} (s : SR K z F io e st σ H) (ht : tight r.1 r.2 = true) (h : PoC K F1 [] H st' r v H') : PoE K z F io H e st σ r v H' := by
  obtain ⟨F2, io2, x, c, q⟩ := h
  have gr : ∀ a u, H a = some u → H' a = some u := fun a u k => x.frm a u k (by simp)
  have s' := s.grow gr
  refine ⟨F, io, ext_grow gr, s', ?_⟩
  unfold VR
  rcases tight_imm ht with hi | ⟨hw, xs, hx, hi⟩
  · split at q
    · obtain ⟨a, _, ⟨_, ds, _, _, e1⟩, _⟩ := q
      rw [e1] at hi; simp [D.imm] at hi
    · rename_i hw
      rw [if_neg hw]
      exact q.imm (fun a xs k => k) hi
  · rw [if_pos hw] at q ⊢
    obtain ⟨a, rfl, ⟨vs, ds, q1, q2, q3⟩, n1, n2, n3⟩ := q
    rw [hx] at q3
    cases q3
    refine ⟨a, rfl, ⟨vs, xs, q1, q2.imm (fun a xs k => k) hi, hx⟩, (s.cel.free n3).1, (s.cel.free n3).2, s.h0 n3, fun i d' g1 g2 => ?_⟩
    obtain ⟨b, g3, g4, _⟩ := s.ow i d' g1
    rw [g2] at g3
    cases g3
    obtain ⟨u, q⟩ := g4.there
    rw [n3] at q; cases q
/-- behind another pure call -/
theorem SR.callN {r : DB} {v : V} (s : SR K z F io e st σ H) (hn : r.1.nol = true) (h : PoC K F [] H st' r v H') : PoE K z F io H e st σ r v H' := by
  obtain ⟨F2, io2, x, c, q⟩ := h
  have gr : ∀ a u, H a = some u → H' a = some u := fun a u k => x.frm a u k (by simp)
  have s1 := s.grow gr
  -- the zone grows
  have x2 : Ext F io H' F2 io H' := ⟨x.ff, fun _ _ _ r => r, fun _ _ r => r, [], by simp⟩
  have old : ∀ {a : Addr}, (∃ u, H a = some u) → ¬ F a → ¬ F2 a := fun ⟨u, hu⟩ n q => by
    rcases x.new _ q with z | z
    · exact n z
    · rw [hu] at z; cases z
  have celOld : ∀ {a : Addr}, a ∈ io → ∃ u, H a = some u := fun {a} hm => by
    obtain ⟨n, hn, e⟩ := List.mem_iff_getElem.mp hm
    have h1 : io[n]? = some a := by rw [List.getElem?_eq_getElem hn, e]
    have hn2 : n < st.length := by rw [← s.cel.len]; exact hn
    exact (s.cel.cell n a st[n] h1 (List.getElem?_eq_getElem hn2)).there
  have s' : SR K z F2 io e st σ H' := ⟨⟨c.dom, s1.cel.len, s1.cel.nd, fun a hm => old (celOld hm) (s.cel.nof a hm), fun n b d h1 h2 => (s1.cel.cell n b d h1 h2).ext x2 rfl⟩, s1.el,
    fun i d q => let ⟨v, h1, h2⟩ := s1.fr i d q; ⟨v, h1, h2.ext x2⟩, fun i d q => by
      obtain ⟨a, h1, h2, h3, h4, h5⟩ := s.ow i d q
      obtain ⟨a', g1, g2, _⟩ := s1.ow i d q
      rw [h1] at g1; cases g1
      exact ⟨a, h1, g2.ext x2 rfl, old h2.there h3, h4, h5⟩, s1.sep, s1.frm, s1.pre, fun a ha => (x.new a ha).elim (s.fnw a) fun q => .inr (s.h0 q)⟩
  refine ⟨F2, io, (ext_grow gr).trans x2, s', ?_⟩
  unfold VR
  split at q
  · rename_i hw
    rw [if_pos hw]
    obtain ⟨a, rfl, ⟨vs, ds, q1, q2, q3⟩, n1, n2, n3⟩ := q
    rw [q3] at hn
    refine ⟨a, rfl, ⟨vs, ds, q1, q2.nol io (by simpa [D.nol] using hn), q3⟩, n1, (s.cel.free n3).2, s.h0 n3, fun i d' g1 g2 => ?_⟩
    obtain ⟨b, g3, g4, _⟩ := s.ow i d' g1
    rw [g2] at g3
    cases g3
    obtain ⟨u, q⟩ := g4.there
    rw [n3] at q; cases q
  · rename_i hw
    rw [if_neg hw]
    exact q.nol io hn
theorem Cel.pure (c : Cel K F io st H) : Cel K F [] [] H := ⟨c.dom, rfl, List.nodup_nil, fun _ h => (by simp at h), fun n a d h => (by simp at h)⟩
end

/-! ## the rules -/
/-- a test's reading -/
def PoS (K : PySem.W.Frag) (z : Zo) (F : Zn) (io : List Addr) (H : Hp) (e' : En) (st' : Sto) (σ : L2.St) (H' : Hp) : Prop := ∃ F' io', Ext F io H F' io' H' ∧ SR K z F' io' e' st' σ H'
def bRes (r : R DB) (P : Bool → En → Sto → Prop) (E : Xc → En → Sto → Prop) : Prop := Res r (fun r e s => ∃ b, r.1 = .bool b ∧ P b e s) E
def tpt (p : Px) (c : E) : TT := fun σ H Q => ∃ F io e st, SR p.K p.z F io e st σ H ∧
  bRes (ev p.B p.G c e st) (fun b e' st' => ∀ H', PoS p.K p.z F io H e' st' σ H' → Q b H') (XW p F io H σ)
structure EOK (X : Cx) (p : Px) (ex : Expr) (c : E) : Prop where
  pe : PE X ex (tev p c)
  par : PE X ex (tar p c)
  pt : PT X ex (tpt p c)
  ns : ∀ es, starEach (ex :: es) X.env = (false, eval ex X.env) :: starEach es X.env
  pm : ∀ op, behindInMarks op ex = false
  nsl : ∀ lo hi st q, ex ≠ .Slice lo hi st q
section
variable {p : Px} {X : Cx} {es : Es} {c : E} {ex a b : Expr} {l : List Expr} {pos : Pos} {F F' : Zn} {io io' : List Addr} {H H' : Hp} {e : En} {st : Sto} {σ : L2.St}
theorem PT.imp {t t' : TT} (h : PT X ex t) (i : ∀ σ H Q, t' σ H Q → t σ H Q) : PT X ex t' := ⟨fun pins s σ H Q I q => h.run pins s σ H Q I (i _ _ _ q)⟩
theorem PoE.poS {r : DB} {e' : En} {st' : Sto} {v : V} (h : PoE p.K p.z F io H e' st' σ r v H') : PoS p.K p.z F io H e' st' σ H' := let ⟨F', io', y, s, _⟩ := h; ⟨F', io', y, s⟩
theorem PoE.bl {b : Bool} {w : Bool} {e' : En} {st' : Sto} {v : V} (h : PoE p.K p.z F io H e' st' σ (.bool b, w) v H') : v = .bl b := by
  obtain ⟨_, _, _, _, q⟩ := h.frz
  cases q; rfl
/-- a test of a value -/
theorem pt_of (h : PE X ex (tev p c)) (he : ∀ whole, isTrue ex X.env whole = (do let v ← whole; standAt ex.pos; holding [v] (truthy v))) : PT X ex (tpt p c) := by
  refine PT.imp (pt_val h he) fun σ H Q ⟨F, io, e, st, s, q⟩ => ?_
  refine ⟨F, io, e, st, s, Res.mono q (fun r e' st' ⟨b, hb, k⟩ v H' po => ?_) fun _ _ _ x => x⟩
  obtain ⟨d, w⟩ := r
  cases hb
  exact ⟨b, po.bl, k H' po.poS⟩
theorem tar_eq (h : ∀ i, c ≠ .var i) : tar p c = tev p c := by
  unfold tar; cases c <;> first | rfl | exact absurd rfl (h _)
/-- an expression of a common form -/
theorem EOK.mk1 (h : PE X ex (tev p c)) (hv : ∀ i, c ≠ .var i) (he : ∀ whole, isTrue ex X.env whole = (do let v ← whole; standAt ex.pos; holding [v] (truthy v))) (ns : ∀ es, starEach (ex :: es) X.env = (false, eval ex X.env) :: starEach es X.env)
    (pm : ∀ op, behindInMarks op ex = false) (nsl : ∀ lo hi st q, ex ≠ .Slice lo hi st q) : EOK X p ex c := ⟨h, by rw [tar_eq hv]; exact h, pt_of h he, ns, pm, nsl⟩
theorem EOK.px (h : EOK X p ex c) : PlainIx ex := by
  have := h.nsl
  intro o i
  cases ex <;> first | rfl | exact absurd rfl (this _ _ _ _)

theorem e_const {ex : Expr} {c : E} {v : V} {d : D} (hp : PE X ex (tC v)) (hc : ∀ e s, ev p.B p.G c e s = .ok (d, false) e s) (hr : ∀ K H F io, Rep K H F io v d) : PE X ex (tev p c) := by
  refine PE.imp hp fun σ H Q ⟨F, io, e, st, s, h⟩ => ?_
  rw [hc] at h
  exact h v H (NV.po s (.val (hr ..)))
theorem e_var {i : Nat} {x : Str} (hN : X.N[i]? = some x) (hv : Vis X.env.scope x) (hd : (x == ("__debug__" : Str)) = false) (hcd : (x == ("__classdict__" : Str)) = false) : EOK X p (.Name x pos) (.var i) := by
  have h0 : PE X (.Name x pos) (tVar i) := pe_var hN hv hd hcd
  have h1 : PE X (.Name x pos) (tev p (.var i)) := by
    refine PE.imp h0 fun σ H Q ⟨F, io, e, st, s, h⟩ => ?_
    rw [ev] at h
    split at h
    · rename_i d hd
      obtain ⟨v, q1, q2⟩ := s.fr i d hd
      exact ⟨v, q1, h v H ⟨F, io, .refl .., s, q2⟩⟩
    · rename_i d hd
      obtain ⟨F', y, s'⟩ := s.fz1 i
      have e1 : fz1 e i = e.set i (.fr d) := by unfold fz1; rw [hd]
      rw [e1] at s'
      obtain ⟨v, q1, q2⟩ := s'.fr i d (List.getElem?_set_self (List.getElem?_eq_some_iff.mp hd).1)
      exact ⟨v, q1, h v H ⟨F', io, y, s', q2⟩⟩
    · exact h.elim
  exact ⟨h1, h0, pt_of h1 fun _ => rfl, fun _ => rfl, fun op => by cases op <;> rfl, fun _ _ _ _ z => by cases z⟩
theorem e_gl {x : Str} (S : Sok p X) (hg : Gl X x) (hd : (x == ("__debug__" : Str)) = false) : PE X (.Name x pos) (tev p (.gl x)) := by
  cases hx : p.G x with
  | none =>
    refine ⟨fun pins s σ H Q I ⟨F, io, e, st, _, h⟩ => ?_⟩
    rw [ev, hx] at h
    exact h.elim
  | some d =>
    have hc : ∀ e s, ev p.B p.G (.gl x) e s = .ok (d, false) e s := fun e s => by rw [ev, hx]; rfl
    rcases S.glb x d hx with ⟨u, v, h1, h2, h3⟩ | ⟨h1, h0, u, v, h2, h3, h4⟩
    · refine PE.imp (pe_glob hg h1 h2 hd) fun σ H Q ⟨F, io, e, st, s, h⟩ => ?_
      rw [hc] at h
      exact h v H (NV.po s (.val (h3 ..)))
    · refine PE.imp (pe_bltn hg h1 h2 h3 h0 hd) fun σ H Q ⟨F, io, e, st, s, h⟩ => ?_
      rw [hc] at h
      exact h v H (NV.po s (.val (h4 ..)))
theorem e_neg (h : PE X a (tev p c)) : PE X (.UnaryOp .USub a pos) (tev p (.neg c)) := by
  refine PE.imp (pe_un un_neg h) fun σ H Q ⟨F, io, e, st, s, h⟩ => ?_
  rw [ev] at h
  refine ⟨F, io, e, st, s, h.of_bind.mono (fun r e' st' k v H' po => ?_) fun _ _ _ x => x⟩
  obtain ⟨F', io', y, s', q⟩ := po.frz
  obtain ⟨d, w⟩ := r
  cases d <;> try exact k.elim
  cases q
  exact ⟨_, rfl, k _ _ (PoE.ext y (NV.po s' (.int _)))⟩
theorem Res.of_iff {d : DB} {t f : R DB} {P : DB → En → Sto → Prop} {E : Xc → En → Sto → Prop} (h : Res (iff d t f) P E) : (d.1 = .bool true ∧ Res t P E) ∨ (d.1 = .bool false ∧ Res f P E) := by
  unfold iff at h
  split at h
  · rename_i e; exact .inl ⟨e, h⟩
  · rename_i e; exact .inr ⟨e, h⟩
  · exact h.elim
theorem e_not (h : PE X a (tev p c)) : PE X (.UnaryOp .Not a pos) (tev p (.not c)) := by
  refine PE.imp (pe_not h) fun σ H Q ⟨F, io, e, st, s, h⟩ => ?_
  rw [ev] at h
  refine ⟨F, io, e, st, s, h.of_bind.mono (fun r e' st' k v H' po => ?_) fun _ _ _ x => x⟩
  obtain ⟨d, w⟩ := r
  obtain ⟨F', io', y, s', _⟩ := id po
  rcases Res.of_iff k with ⟨h1, k⟩ | ⟨h1, k⟩ <;> cases h1
  · exact ⟨true, po.bl, k _ _ (PoE.ext y (NV.po s' (.bl _)))⟩
  · exact ⟨false, po.bl, k _ _ (PoE.ext y (NV.po s' (.bl _)))⟩
theorem t_not (h : PT X a (tpt p c)) : PT X (.UnaryOp .Not a pos) (tpt p (.not c)) := by
  refine PT.imp (pt_not h) fun σ H Q ⟨F, io, e, st, s, h⟩ => ?_
  unfold bRes at h
  rw [ev] at h
  refine ⟨F, io, e, st, s, h.of_bind.mono (fun r e' st' k => ?_) fun _ _ _ x => x⟩
  rcases Res.of_iff k with ⟨h1, k⟩ | ⟨h1, k⟩
  · obtain ⟨b, hb, k⟩ := k; cases hb; exact ⟨true, h1, fun H' po => k H' po⟩
  · obtain ⟨b, hb, k⟩ := k; cases hb; exact ⟨false, h1, fun H' po => k H' po⟩
theorem XW.ext' {x : Xc} {e' : En} {st' : Sto} {e2 : En} {st2 : Sto} (h : PoS p.K p.z F io H e2 st2 σ H') : ∃ F' io', SR p.K p.z F' io' e2 st2 σ H' ∧ Ext F io H F' io' H' := let ⟨F', io', y, s⟩ := h; ⟨F', io', s, y⟩
/-- and, or -/
def tevA (p : Px) (b : Bool) (c : Es) : TE := fun σ H Q => ∃ F io e st, SR p.K p.z F io e st σ H ∧
  Res (if b then evAnd p.B p.G c e st else evOr p.B p.G c e st) (fun r e' st' => ∀ v H', PoE p.K p.z F io H e' st' σ r v H' → Q v H') (XW p F io H σ)
def tptA (p : Px) (b : Bool) (c : Es) : TT := fun σ H Q => ∃ F io e st, SR p.K p.z F io e st σ H ∧
  bRes (if b then evAnd p.B p.G c e st else evOr p.B p.G c e st) (fun b e' st' => ∀ H', PoS p.K p.z F io H e' st' σ H' → Q b H') (XW p F io H σ)
inductive EsOK (X : Cx) (p : Px) : Es → List Expr → Prop
  | nil : EsOK X p .nil []
  | cons {c : E} {r : Es} {ex : Expr} {l : List Expr} : EOK X p ex c → EsOK X p r l → EsOK X p (.cons c r) (ex :: l)
theorem EsOK.pes (h : EsOK X p es l) : PEs X p es l := by
  induction h with
  | nil => exact .nil
  | cons a _ ih => exact .cons a.par a.ns ih
theorem e_and : ∀ {l : List Expr} {c : Es} {a : Expr}, EsOK X p c (a :: l) → PE X (.BoolOp .And (a :: l) pos) (tevA p true c)
  | [], _, _, .cons h .nil => PE.imp (pe_one h.pe) fun σ H Q ⟨F, io, e, st, s, k⟩ => ⟨F, io, e, st, s, by simpa [evAnd] using k⟩
  | b :: l, _, a, .cons h (.cons (c := c2) (r := r2) h2 hr) => by
    refine PE.imp (pe_and h.pe (e_and (.cons h2 hr))) fun σ H Q ⟨F, io, e, st, s, k⟩ => ?_
    rw [if_pos rfl, evAnd] at k
    refine ⟨F, io, e, st, s, k.of_bind.mono (fun r e' st' k v H' po => ?_) fun _ _ _ x => x⟩
    obtain ⟨d, w⟩ := r
    obtain ⟨F', io', y, s', _⟩ := id po
    rcases Res.of_iff k with ⟨h1, k⟩ | ⟨h1, k⟩ <;> cases h1
    · refine ⟨true, po.bl, ?_⟩
      rw [if_pos rfl]
      exact ⟨F', io', e', st', s', by rw [if_pos rfl]; exact k.mono (fun _ _ _ q v H2 po2 => q v H2 (PoE.ext y po2)) fun _ _ _ x => XW.ext y x⟩
    · refine ⟨false, po.bl, ?_⟩
      rw [if_neg (by decide)]
      exact k _ _ (PoE.ext y (NV.po s' (.bl _)))
theorem e_or : ∀ {l : List Expr} {c : Es} {a : Expr}, EsOK X p c (a :: l) → PE X (.BoolOp .Or (a :: l) pos) (tevA p false c)
  | [], _, _, .cons h .nil => PE.imp (pe_one h.pe) fun σ H Q ⟨F, io, e, st, s, k⟩ => ⟨F, io, e, st, s, by simpa [evOr] using k⟩
  | b :: l, _, a, .cons h (.cons (c := c2) (r := r2) h2 hr) => by
    refine PE.imp (pe_or h.pe (e_or (.cons h2 hr))) fun σ H Q ⟨F, io, e, st, s, k⟩ => ?_
    rw [if_neg (by decide), evOr] at k
    refine ⟨F, io, e, st, s, k.of_bind.mono (fun r e' st' k v H' po => ?_) fun _ _ _ x => x⟩
    obtain ⟨d, w⟩ := r
    obtain ⟨F', io', y, s', _⟩ := id po
    rcases Res.of_iff k with ⟨h1, k⟩ | ⟨h1, k⟩ <;> cases h1
    · refine ⟨true, po.bl, ?_⟩
      rw [if_pos rfl]
      exact k _ _ (PoE.ext y (NV.po s' (.bl _)))
    · refine ⟨false, po.bl, ?_⟩
      rw [if_neg (by decide)]
      exact ⟨F', io', e', st', s', by rw [if_neg (by decide)]; exact k.mono (fun _ _ _ q v H2 po2 => q v H2 (PoE.ext y po2)) fun _ _ _ x => XW.ext y x⟩
theorem PoS.ext (y : Ext F io H F' io' H') {e' : En} {st' : Sto} {H2 : Hp} (h : PoS p.K p.z F' io' H' e' st' σ H2) : PoS p.K p.z F io H e' st' σ H2 := let ⟨F2, io2, y2, s⟩ := h; ⟨F2, io2, y.trans y2, s⟩
theorem t_and : ∀ {l : List Expr} {c : Es} {a : Expr}, EsOK X p c (a :: l) → PW X (.BoolOp .And (a :: l) pos) (tptA p true c)
  | [], _, _, .cons h .nil => pw_and1 (PT.imp h.pt fun σ H Q ⟨F, io, e, st, s, k⟩ => ⟨F, io, e, st, s, by simpa [evAnd] using k⟩)
  | b :: l, _, a, .cons h (.cons (c := c2) (r := r2) h2 hr) => by
    have := pw_and (pos := pos) h.pt (t_and (.cons h2 hr))
    refine ⟨fun whole pins s σ H Q I q => this.run whole pins s σ H Q I ?_⟩
    obtain ⟨F, io, e, st, s, k⟩ := q
    unfold bRes at k
    rw [if_pos rfl, evAnd] at k
    refine ⟨F, io, e, st, s, k.of_bind.mono (fun r e' st' k => ?_) fun _ _ _ x => x⟩
    rcases Res.of_iff k with ⟨h1, k⟩ | ⟨h1, k⟩
    · refine ⟨true, h1, fun H' po => ?_⟩
      obtain ⟨F', io', y, s'⟩ := po
      rw [if_pos rfl]
      exact ⟨F', io', e', st', s', by rw [if_pos rfl]; exact k.mono (fun _ _ _ ⟨b, hb, q⟩ => ⟨b, hb, fun H2 po2 => q H2 (PoS.ext y po2)⟩) fun _ _ _ x => XW.ext y x⟩
    · obtain ⟨b, hb, k⟩ := k
      cases hb
      exact ⟨false, h1, fun H' po => iteF (k H' po)⟩
theorem t_or : ∀ {l : List Expr} {c : Es} {a : Expr}, EsOK X p c (a :: l) → PW X (.BoolOp .Or (a :: l) pos) (tptA p false c)
  | [], _, _, .cons h .nil => pw_or1 (PT.imp h.pt fun σ H Q ⟨F, io, e, st, s, k⟩ => ⟨F, io, e, st, s, by simpa [evOr] using k⟩)
  | b :: l, _, a, .cons h (.cons (c := c2) (r := r2) h2 hr) => by
    have := pw_or (pos := pos) h.pt (t_or (.cons h2 hr))
    refine ⟨fun whole pins s σ H Q I q => this.run whole pins s σ H Q I ?_⟩
    obtain ⟨F, io, e, st, s, k⟩ := q
    unfold bRes at k
    rw [if_neg (by decide), evOr] at k
    refine ⟨F, io, e, st, s, k.of_bind.mono (fun r e' st' k => ?_) fun _ _ _ x => x⟩
    rcases Res.of_iff k with ⟨h1, k⟩ | ⟨h1, k⟩
    · obtain ⟨b, hb, k⟩ := k
      cases hb
      exact ⟨true, h1, fun H' po => iteT (k H' po)⟩
    · refine ⟨false, h1, fun H' po => ?_⟩
      obtain ⟨F', io', y, s'⟩ := po
      rw [if_neg (by decide)]
      exact ⟨F', io', e', st', s', by rw [if_neg (by decide)]; exact k.mono (fun _ _ _ ⟨b, hb, q⟩ => ⟨b, hb, fun H2 po2 => q H2 (PoS.ext y po2)⟩) fun _ _ _ x => XW.ext y x⟩
theorem e_ite {c1 c2 c3 : E} {t : Expr} (ht : EOK X p t c1) (ha : EOK X p a c2) (hb : EOK X p b c3) : PE X (.IfExp t a b pos) (tev p (.ite c1 c2 c3)) := by
  refine PE.imp (pe_ifExp ht.pt ha.pe hb.pe) fun σ H Q ⟨F, io, e, st, s, k⟩ => ?_
  rw [ev] at k
  refine ⟨F, io, e, st, s, k.of_bind.mono (fun r e' st' k => ?_) fun _ _ _ x => x⟩
  rcases Res.of_iff k with ⟨h1, k⟩ | ⟨h1, k⟩
  · refine ⟨true, h1, fun H' po => ?_⟩
    obtain ⟨F', io', y, s'⟩ := po
    rw [if_pos rfl]
    exact ⟨F', io', e', st', s', k.mono (fun _ _ _ q v H2 po2 => q v H2 (PoE.ext y po2)) fun _ _ _ x => XW.ext y x⟩
  · refine ⟨false, h1, fun H' po => ?_⟩
    obtain ⟨F', io', y, s'⟩ := po
    rw [if_neg (by decide)]
    exact ⟨F', io', e', st', s', k.mono (fun _ _ _ q v H2 po2 => q v H2 (PoE.ext y po2)) fun _ _ _ x => XW.ext y x⟩
theorem pt_ifExp {t : Expr} {tc ta tb : TT} (ht : PT X t tc) (ha : PT X a ta) (hb : PT X b tb) : PT X (.IfExp t a b pos) (fun σ H Q => tc σ H fun c H1 => if c = true then ta σ H1 Q else tb σ H1 Q) := by
  refine ⟨fun pins s σ H Q I h => ?_⟩
  refine isTrue_IfExp (thn (ht.run pins s σ H _ I h) fun d s1 ⟨H1, I1, q1⟩ => ?_)
  cases d with
  | true => exact ha.run pins s1 σ H1 Q I1 q1
  | false => exact hb.run pins s1 σ H1 Q I1 q1
theorem t_ite {c1 c2 c3 : E} {t : Expr} (ht : EOK X p t c1) (ha : EOK X p a c2) (hb : EOK X p b c3) : PT X (.IfExp t a b pos) (tpt p (.ite c1 c2 c3)) := by
  refine PT.imp (pt_ifExp ht.pt ha.pt hb.pt) fun σ H Q ⟨F, io, e, st, s, k⟩ => ?_
  unfold bRes at k
  rw [ev] at k
  refine ⟨F, io, e, st, s, k.of_bind.mono (fun r e' st' k => ?_) fun _ _ _ x => x⟩
  rcases Res.of_iff k with ⟨h1, k⟩ | ⟨h1, k⟩
  · refine ⟨true, h1, fun H' po => ?_⟩
    obtain ⟨F', io', y, s'⟩ := po
    rw [if_pos rfl]
    exact ⟨F', io', e', st', s', k.mono (fun _ _ _ ⟨b, hb, q⟩ => ⟨b, hb, fun H2 po2 => q H2 (PoS.ext y po2)⟩) fun _ _ _ x => XW.ext y x⟩
  · refine ⟨false, h1, fun H' po => ?_⟩
    obtain ⟨F', io', y, s'⟩ := po
    rw [if_neg (by decide)]
    exact ⟨F', io', e', st', s', k.mono (fun _ _ _ ⟨b, hb, q⟩ => ⟨b, hb, fun H2 po2 => q H2 (PoS.ext y po2)⟩) fun _ _ _ x => XW.ext y x⟩
end
end Pv
namespace Pv
open PySem PySem.Spec PyProof.Rows L2
section
variable {K : PySem.W.Frag} {z : Zo} {F F' : Zn} {io io' : List Addr} {H H' : Hp} {e : En} {st st' : Sto} {σ : L2.St} {v : V} {d : D}
/-- a new own object becomes the store's -/
theorem SR.stow (s : SR K z F io e st σ H) (h : OwR K z H F io e σ v d) : ∃ a, v = .ref a ∧ Ext F io H F (io ++ [a]) H ∧ SR K z F (io ++ [a]) e (st ++ [d]) σ H ∧ Rep K H F (io ++ [a]) v (.loc st.length) := by
  obtain ⟨a, rfl, ho, n1, n2, n3, n4⟩ := h
  have x : Ext F io H F (io ++ [a]) H := ⟨fun _ h => h, fun _ _ _ r => r, fun _ _ r => r, [a], rfl⟩
  have hl := s.cel.len
  refine ⟨a, rfl, x, ⟨⟨s.cel.dom, by simp [hl], ?_, fun b hb => ?_, fun n b d' h1 h2 => ?_⟩, s.el, fun i d' q => ?_, fun i d' q => ?_, s.sep, s.frm, ?_, s.fnw⟩, .loc (by rw [← hl]; simp)⟩
  · rw [List.nodup_append]
    exact ⟨s.cel.nd, by simp, fun b hb c hc => by simp at hc; subst hc; exact fun q => n2 (q ▸ hb)⟩
  · rcases List.mem_append.mp hb with hb | hb
    · exact s.cel.nof b hb
    · simp at hb; subst hb; exact n1
  · by_cases hn : n < io.length
    · rw [List.getElem?_append_left hn] at h1
      rw [List.getElem?_append_left (by omega)] at h2
      exact (s.cel.cell n b d' h1 h2).ext x rfl
    · rw [List.getElem?_append_right (by omega)] at h1
      rw [List.getElem?_append_right (by omega)] at h2
      have e0 : n - io.length = 0 := by
        cases hh : n - io.length with
        | zero => rfl
        | succ m => rw [hh] at h1; simp at h1
      rw [e0] at h1
      rw [show n - st.length = 0 by omega] at h2
      simp at h1 h2
      subst h1 h2
      exact ho.ext x rfl
  · obtain ⟨v, h1, h2⟩ := s.fr i d' q
    exact ⟨v, h1, h2.ext x⟩
  · obtain ⟨b, h1, h2, h3, h4, h5⟩ := s.ow i d' q
    refine ⟨b, h1, h2.ext x rfl, h3, fun hm => ?_, h5⟩
    rcases List.mem_append.mp hm with hm | hm
    · exact h4 hm
    · simp at hm; subst hm; exact n4 i d' q h1
  · obtain ⟨l, e1, e2⟩ := s.pre
    refine ⟨l ++ [a], by rw [e1, List.append_assoc], fun b hb => ?_⟩
    rcases List.mem_append.mp hb with hb | hb
    · exact e2 b hb
    · simp at hb; subst hb; exact n3
theorem stow_po {l : Bool} {P : DB → En → Sto → Prop} {E : Xc → En → Sto → Prop} {e' : En} {st' : Sto} (k : Res (stow l d e' st') P E) (h : PoE K z F io H e' st' σ (d, true) v H') :
    ∃ r e2 st2, P r e2 st2 ∧ PoE K z F io H e2 st2 σ r v H' := by
  cases l with
  | false => exact ⟨(d, true), e', st', k, h⟩
  | true =>
    obtain ⟨F', io', y, s, q⟩ := h
    obtain ⟨a, rfl, x, s', r⟩ := s.stow q
    exact ⟨(.loc st'.length, false), e', st' ++ [d], k, F', io' ++ [a], y.trans x, s', r⟩
/-- the own list of a slot is written -/
theorem ext_upd {a : Addr} {ws vs : List V} (h : H a = some (.lst ws)) (n : ¬ F a) : Ext F io H F io (upd H a (.lst vs)) := by
  refine ⟨fun _ x => x, fun b u hb r => ?_, fun b xs r => ?_, [], by simp⟩
  · have ne : b ≠ a := fun q => n (q ▸ hb)
    rcases r with r | ⟨o, r⟩
    · exact .inl (by rw [upd_ne ne]; exact r)
    · exact .inr ⟨o, by rw [upd_ne ne]; exact r⟩
  · have ne : b ≠ a := fun q => by
      subst q
      rcases r with r | ⟨_, r⟩ <;> rw [h] at r <;> cases r
    rcases r with r | ⟨o, r⟩
    · exact .inl (by rw [upd_ne ne]; exact r)
    · exact .inr ⟨o, by rw [upd_ne ne]; exact r⟩
theorem SR.updOw {i : Nat} {x : D} {a : Addr} {vs : List V} {ds : List D} (s : SR K z F io e st σ H) (h : e[i]? = some (.ow x)) (hσ : σ[i]? = some (some (.ref a))) (r : RepL K H F io vs ds) :
    Ext F io H F io (upd H a (.lst vs)) ∧ SR K z F io (e.set i (.ow (.lst ds))) st σ (upd H a (.lst vs)) := by
  obtain ⟨b, h1, ⟨ws, xs, h2, h2', h2''⟩, h3, h4, h5⟩ := s.ow i x h
  rw [hσ] at h1; cases h1
  have hi := (List.getElem?_eq_some_iff.mp h).1
  have y := ext_upd (io := io) (vs := vs) h2 h3
  refine ⟨y, ⟨⟨fun b hb => ?_, s.cel.len, s.cel.nd, s.cel.nof, fun n b d' q1 q2 => ?_⟩, by simpa using s.el, fun j d' q => ?_, fun j d' q => ?_, fun j k d1 d2 b q1 q2 => ?_, fun b u q n => ?_, s.pre, s.fnw⟩⟩
  · obtain ⟨u, q⟩ := s.cel.dom b hb
    exact ⟨u, by rw [upd_ne (show b ≠ a from fun w => h3 (w ▸ hb))]; exact q⟩
  · refine (s.cel.cell n b d' q1 q2).ext y (upd_ne fun z => ?_)
    subst z
    exact h4 (List.mem_iff_getElem?.mpr ⟨n, q1⟩)
  · have hj : i ≠ j := fun z => by subst z; rw [List.getElem?_set_self hi] at q; cases q
    rw [List.getElem?_set_ne hj] at q
    obtain ⟨v, g1, g2⟩ := s.fr j d' q
    exact ⟨v, g1, g2.ext y⟩
  · by_cases hj : i = j
    · subst hj
      rw [List.getElem?_set_self hi] at q
      cases q
      exact ⟨a, hσ, ⟨vs, ds, upd_same, r.ext y, rfl⟩, h3, h4, h5⟩
    · rw [List.getElem?_set_ne hj] at q
      obtain ⟨b, g1, g2, g3, g4, g5⟩ := s.ow j d' q
      refine ⟨b, g1, g2.ext y (upd_ne fun z => ?_), g3, g4, g5⟩
      subst z
      exact hj (s.sep i j _ _ _ h q hσ g1)
  · have own : ∀ {j : Nat} {d' : D}, (e.set i (.ow (.lst ds)))[j]? = some (.ow d') → ∃ d2, e[j]? = some (.ow d2) := fun {j d'} q => by
      by_cases hj : i = j
      · subst hj; exact ⟨x, h⟩
      · rw [List.getElem?_set_ne hj] at q; exact ⟨_, q⟩
    obtain ⟨d3, g1⟩ := own q1
    obtain ⟨d4, g2⟩ := own q2
    exact s.sep j k _ _ _ g1 g2
  · rw [upd_ne (fun z => by rw [z, h5] at q; cases q)]
    exact s.frm b u q n
theorem SR.updCel {n : Nat} {a : Addr} {vs : List V} {ds : List D} (s : SR K z F io e st σ H) (h : io[n]? = some a) (r : RepL K H F io vs ds) :
    Ext F io H F io (upd H a (.lst vs)) ∧ SR K z F io e (st.set n (.lst ds)) σ (upd H a (.lst vs)) := by
  have hm : a ∈ io := List.mem_iff_getElem?.mpr ⟨n, h⟩
  have hn := (List.getElem?_eq_some_iff.mp h).1
  have hn' : n < st.length := by rw [← s.cel.len]; exact hn
  have h3 := s.cel.nof a hm
  obtain ⟨ws, xs, h2, h2', h2''⟩ := s.cel.cell n a st[n] h (List.getElem?_eq_getElem hn')
  have y := ext_upd (io := io) (vs := vs) h2 h3
  refine ⟨y, ⟨⟨fun b hb => ?_, by simpa using s.cel.len, s.cel.nd, s.cel.nof, fun m b d' q1 q2 => ?_⟩, s.el, fun j d' q => ?_, fun j d' q => ?_, s.sep, fun b u q nb => ?_, s.pre, s.fnw⟩⟩
  · obtain ⟨u, q⟩ := s.cel.dom b hb
    exact ⟨u, by rw [upd_ne (show b ≠ a from fun w => h3 (w ▸ hb))]; exact q⟩
  · by_cases hmn : n = m
    · subst hmn
      rw [h] at q1; cases q1
      rw [List.getElem?_set_self hn'] at q2; cases q2
      exact ⟨vs, ds, upd_same, r.ext y, rfl⟩
    · rw [List.getElem?_set_ne hmn] at q2
      refine (s.cel.cell m b d' q1 q2).ext y (upd_ne fun z => ?_)
      subst z
      obtain ⟨g1, e1⟩ := List.getElem?_eq_some_iff.mp h
      obtain ⟨g2, e2⟩ := List.getElem?_eq_some_iff.mp q1
      exact hmn ((List.getElem_inj s.cel.nd).mp (e1.trans e2.symm))
  · obtain ⟨v, g1, g2⟩ := s.fr j d' q
    exact ⟨v, g1, g2.ext y⟩
  · obtain ⟨b, g1, g2, g3, g4, g5⟩ := s.ow j d' q
    exact ⟨b, g1, g2.ext y (upd_ne fun z => g4 (z ▸ hm)), g3, g4, g5⟩
  · rw [upd_ne (show b ≠ a from fun w => s.ni0 q nb (w ▸ hm))]
    exact s.frm b u q nb
/-- an object of a slot written -/
theorem chgS_po {f : D → Option (D × D)} {i : Nat} {P : DB → En → Sto → Prop} {E : Xc → En → Sto → Prop} (s : SR K z F io e st σ H) (hv : σ[i]? = some (some v)) (k : Res (chgS f i e st) P E) :
    ∃ a ws x r x', v = .ref a ∧ H a = some (.lst ws) ∧ RepL K H F io ws x ∧ f (.lst x) = some (r, x') ∧ ∀ ws' xs', RepL K H F io ws' xs' → x' = .lst xs' →
      ∃ e' st', P (r, false) e' st' ∧ Ext F io H F io (upd H a (.lst ws')) ∧ SR K z F io e' st' σ (upd H a (.lst ws')) := by
  unfold chgS at k
  split at k
  · rename_i x hx
    obtain ⟨a, h1, ⟨ws, xs, h2, h2', h2''⟩, _⟩ := s.ow i x hx
    rw [hv] at h1; cases h1
    subst h2''
    split at k
    · rename_i r x' hf
      refine ⟨a, ws, xs, r, x', rfl, h2, h2', hf, fun ws' xs' q eq => ?_⟩
      subst eq
      obtain ⟨y, s'⟩ := s.updOw hx hv q
      exact ⟨_, _, k, y, s'⟩
    · exact k.elim
  · rename_i n hx
    obtain ⟨v', h1, h2⟩ := s.fr i _ hx
    rw [hv] at h1; cases h1
    cases h2 with
    | @loc a _ hn =>
      split at k
      · rename_i r x' hf
        simp only [Option.bind_eq_some_iff] at hf
        obtain ⟨d, hd, hf⟩ := hf
        obtain ⟨ws, xs, g1, g2, g3⟩ := s.cel.cell n a d hn hd
        subst g3
        refine ⟨a, ws, xs, r, x', rfl, g1, g2, hf, fun ws' xs' q eq => ?_⟩
        subst eq
        obtain ⟨y, s'⟩ := s.updCel hn q
        exact ⟨_, _, k, y, s'⟩
      · exact k.elim
  · exact k.elim
theorem chgO_po {f : D → Option (D × D)} {P : DB → En → Sto → Prop} {E : Xc → En → Sto → Prop} (s : SR K z F io e st σ H) (hv : Rep K H F io v d) (k : Res (chgO f d e st) P E) :
    ∃ a ws x r x', v = .ref a ∧ H a = some (.lst ws) ∧ RepL K H F io ws x ∧ f (.lst x) = some (r, x') ∧ ∀ ws' xs', RepL K H F io ws' xs' → x' = .lst xs' →
      ∃ e' st', P (r, false) e' st' ∧ Ext F io H F io (upd H a (.lst ws')) ∧ SR K z F io e' st' σ (upd H a (.lst ws')) := by
  unfold chgO at k
  split at k
  · rename_i n
    cases hv with
    | @loc a _ hn =>
      split at k
      · rename_i r x' hf
        simp only [Option.bind_eq_some_iff] at hf
        obtain ⟨d, hd, hf⟩ := hf
        obtain ⟨ws, xs, g1, g2, g3⟩ := s.cel.cell n a d hn hd
        subst g3
        refine ⟨a, ws, xs, r, x', rfl, g1, g2, hf, fun ws' xs' q eq => ?_⟩
        subst eq
        obtain ⟨y, s'⟩ := s.updCel hn q
        exact ⟨_, _, k, y, s'⟩
      · exact k.elim
  · exact k.elim
theorem isLst_ty {i : Nat} (s : SR K z F io e st σ H) (h : isLst e st i = true) (hv : σ[i]? = some (some v)) : tyV K "list" v H := by
  unfold isLst at h
  split at h
  · rename_i xs hx
    obtain ⟨a, h1, ⟨ws, ys, h2, _⟩, _⟩ := s.ow i _ hx
    rw [hv] at h1; cases h1
    exact .inl ⟨rfl, ws, SqL.of h2⟩
  · rename_i n hx
    obtain ⟨v', h1, h2⟩ := s.fr i _ hx
    rw [hv] at h1; cases h1
    cases h2 with
    | @loc a _ hn =>
      split at h
      · rename_i xs hd
        obtain ⟨ws, ys, g1, _⟩ := s.cel.cell n a _ hn hd
        exact .inl ⟨rfl, ws, SqL.of g1⟩
      · cases h
  · cases h
theorem isLst_def {i : Nat} (h : isLst e st i = true) : isDef e i = true := by
  unfold isLst at h
  unfold isDef
  split at h
  · rename_i hx; rw [hx]
  · rename_i hx; rw [hx]
  · cases h
theorem isLoc_ty (s : SR K z F io e st σ H) (h : isLoc st d = true) (hv : Rep K H F io v d) : tyV K "list" v H := by
  unfold isLoc at h
  split at h
  · rename_i n
    cases hv with
    | @loc a _ hn =>
      split at h
      · rename_i xs hd
        obtain ⟨ws, ys, g1, _⟩ := s.cel.cell n a _ hn hd
        exact .inl ⟨rfl, ws, SqL.of g1⟩
      · cases h
  · cases h
end

section
variable {p : Px} {X : Cx} {es : Es} {c : E} {ex a b : Expr} {l : List Expr} {pos : Pos} {F F' : Zn} {io io' : List Addr} {H H' : Hp} {e : En} {st : Sto} {σ : L2.St}
theorem EsOK.two (h : EsOK X p es [a, b]) : ∃ ca cb, es = .cons ca (.cons cb .nil) ∧ EOK X p a ca ∧ EOK X p b cb := by
  cases h with
  | cons h1 h =>
    cases h with
    | cons h2 h => cases h; exact ⟨_, _, rfl, h1, h2⟩
theorem EsOK.one (h : EsOK X p es [a]) : ∃ ca, es = .cons ca .nil ∧ EOK X p a ca := by
  cases h with
  | cons h1 h => cases h; exact ⟨_, rfl, h1⟩
theorem Res.of_boolR {o : Option Bool} {e : En} {s : Sto} {P : DB → En → Sto → Prop} {E : Xc → En → Sto → Prop} (h : Res (boolR o e s) P E) : ∃ b, o = some b ∧ P (.bool b, false) e s := by
  cases o with
  | none => exact h.elim
  | some b => exact ⟨b, rfl, h⟩
/-! ### comparisons -/
/-- a comparison behind its operands -/
def CmT (p : Px) (op : CmpOp) (Q : Bool → Hp → Prop) (vs : List V) (H2 : Hp) : Prop :=
  ∃ F io x y b, ROL p.K H2 F io vs [x, y] ∧ cmpD op x y = some b ∧ Q b H2
theorem cmp_tag {op : CmpOp} {P : DB → En → Sto → Prop} {Q : Bool → Hp → Prop} (s : SR p.K p.z F io e st σ H)
    (h : Res ((ag p.B p.G es e st).bind fun as e s => boolR ((rd e as).bind (cmpO op s)) e s) P (XW p F io H σ))
    (hP : ∀ b e' st', P (.bool b, false) e' st' → ∀ H', PoS p.K p.z F io H e' st' σ H' → Q b H') :
    tag p es σ H (CmT p op Q) := by
  refine ⟨F, io, e, st, s, h.of_bind.mono (fun as e' st' k vs H' ⟨F', io', y, s', q⟩ => ?_) fun _ _ _ x => x⟩
  obtain ⟨b, hb, k⟩ := k.of_boolR
  simp only [Option.bind_eq_some_iff] at hb
  obtain ⟨ds, q1, q2⟩ := hb
  have ro := s'.ro q q1
  match ds, q2, ro with
  | [d1, d2], q2, ro =>
    simp only [cmpO, Option.bind_eq_some_iff] at q2
    obtain ⟨x, g1, y', g2, g3⟩ := q2
    match vs, ro with
    | [v1, v2], ⟨r1, r2, t⟩ => exact ⟨F', io', x, y', b, ⟨r1.der s'.cel g1, r2.der s'.cel g2, trivial⟩, g3, hP b e' st' k H' ⟨F', io', y, s'⟩⟩
theorem PoS.poB {b : Bool} {e' : En} {st' : Sto} (h : PoS p.K p.z F io H e' st' σ H') : PoE p.K p.z F io H e' st' σ (.bool b, false) (.bl b) H' := let ⟨F', io', y, s⟩ := h; ⟨F', io', y, s, .bl b⟩
theorem e_cmp {op : CmpOp} (S : Sok p X) (h : EsOK X p es [a, b]) : PE X (.Compare a [op] [b] pos) (tev p (.cmp op es)) := by
  obtain ⟨ca, cb, rfl, ha, hb⟩ := h.two
  refine PE.imp (pe_cmpR (op_cmp S.hu op) ha.par hb.par (hb.pm op)) fun σ H Q ⟨F, io, e, st, s, h⟩ => ?_
  rw [ev] at h
  refine (tag2 (cmp_tag (Q := fun b H2 => Q (.bl b) H2) s h fun b e' st' k H' po => k _ _ po.poB)).mono fun x H1 q => q.mono fun y H2 q => ?_
  obtain ⟨F2, io2, d1, d2, b, ⟨r1, r2, _⟩, hc, k⟩ := q
  exact ⟨F2, io2, d1, d2, b, S.K ▸ r1, S.K ▸ r2, hc, k⟩
theorem t_cmp {op : CmpOp} (S : Sok p X) (h : EsOK X p es [a, b]) : PT X (.Compare a [op] [b] pos) (tpt p (.cmp op es)) := by
  obtain ⟨ca, cb, rfl, ha, hb⟩ := h.two
  refine PT.imp (pt_cmpR (op_cmp S.hu op) ha.par hb.par (hb.pm op)) fun σ H Q ⟨F, io, e, st, s, h⟩ => ?_
  unfold bRes at h
  rw [ev] at h
  refine (tag2 (cmp_tag (Q := fun b H2 => Q b H2) s h fun b e' st' k H' po => ?_)).mono fun x H1 q => q.mono fun y H2 q => ?_
  · obtain ⟨b', hb', k⟩ := k
    cases hb'
    exact k H' po
  · obtain ⟨F2, io2, d1, d2, b, ⟨r1, r2, _⟩, hc, k⟩ := q
    exact ⟨F2, io2, d1, d2, b, S.K ▸ r1, S.K ▸ r2, hc, b, rfl, k⟩
/-- a chain behind its first two operands -/
def ChT (p : Px) (o1 o2 : CmpOp) (c : E) (σ : L2.St) (Q : Bool → Hp → Prop) (vs : List V) (H2 : Hp) : Prop :=
  ∃ F io x j b, ROL p.K H2 F io vs [x, .int j] ∧ cmpD o1 x (.int j) = some b ∧ if b = true then tev p c σ H2 (fun w H4 => ∃ F io z b, Rep p.K H4 F io w z ∧ cmpD o2 (.int j) z = some b ∧ Q b H4) else Q false H2
theorem chn_tag {o1 o2 : CmpOp} {P : DB → En → Sto → Prop} {Q : Bool → Hp → Prop} (s : SR p.K p.z F io e st σ H)
    (h : Res (ev p.B p.G (.chn o1 o2 es c) e st) P (XW p F io H σ))
    (hP : ∀ b e' st', P (.bool b, false) e' st' → ∀ H', PoS p.K p.z F io H e' st' σ H' → Q b H') :
    tag p es σ H (ChT p o1 o2 c σ Q) := by
  rw [ev] at h
  refine ⟨F, io, e, st, s, h.of_bind.mono (fun as e' st' k vs H' ⟨F', io', y, s', q⟩ => ?_) fun _ _ _ x => x⟩
  split at k
  · rename_i x j hds
    have ro := s'.ro q hds
    split at k
    · rename_i hc
      refine ⟨F', io', x, j, true, ro, hc, ?_⟩
      rw [if_pos rfl]
      refine ⟨F', io', e', st', s', k.of_bind.mono (fun r e2 st2 k2 w H4 po => ?_) fun _ _ _ x => XW.ext y x⟩
      obtain ⟨b, hb, k2⟩ := k2.of_boolR
      obtain ⟨F2, io2, y2, s2, q2⟩ := po.frz
      exact ⟨F2, io2, r.1, b, q2, hb, hP b e2 st2 k2 H4 ⟨F2, io2, y.trans y2, s2⟩⟩
    · rename_i hc
      refine ⟨F', io', x, j, false, ro, hc, ?_⟩
      rw [if_neg (by decide)]
      exact hP false e' st' k H' ⟨F', io', y, s'⟩
    · exact k.elim
  · exact k.elim
theorem lastM {op op' : CmpOp} {b c : Expr} (h : behindInMarks op' c = false) : lastMarks [op, op'] [b, c] = false := h
theorem e_chn {o1 o2 : CmpOp} {cx : Expr} (S : Sok p X) (h : EsOK X p es [a, b]) (hc : EOK X p cx c) : PE X (.Compare a [o1, o2] [b, cx] pos) (tev p (.chn o1 o2 es c)) := by
  obtain ⟨ca, cb, rfl, ha, hb⟩ := h.two
  refine PE.imp (pe_chain (op_cmp S.hu o1) (op_cmp S.hu o2) ha.par hb.par hc.pe (lastM (hc.pm o2))) fun σ H Q ⟨F, io, e, st, s, h⟩ => ?_
  refine (tag2 (chn_tag (Q := fun b H2 => Q (.bl b) H2) s h fun b e' st' k H' po => k _ _ po.poB)).mono fun x H1 q => q.mono fun y H2 q => ?_
  obtain ⟨F2, io2, d1, j, b, ⟨r1, r2, _⟩, hc, k⟩ := q
  refine ⟨F2, io2, d1, .int j, b, S.K ▸ r1, S.K ▸ r2, hc, b, rfl, ?_⟩
  split at k
  · rename_i hb
    rw [if_pos hb]
    refine k.mono fun w H4 ⟨F3, io3, z, b', g1, g2, g3⟩ => ⟨F3, io3, .int j, z, b', ?_, .inl (S.K ▸ g1), g2, g3⟩
    rw [r2.int]
    exact .inl (.int j)
  · rename_i hb
    rw [if_neg hb]
    exact k
theorem t_chn {o1 o2 : CmpOp} {cx : Expr} (S : Sok p X) (h : EsOK X p es [a, b]) (hc : EOK X p cx c) : PT X (.Compare a [o1, o2] [b, cx] pos) (tpt p (.chn o1 o2 es c)) := by
  obtain ⟨ca, cb, rfl, ha, hb⟩ := h.two
  refine PT.imp (pt_chain (op_cmp S.hu o1) (op_cmp S.hu o2) ha.par hb.par hc.pe (lastM (hc.pm o2))) fun σ H Q ⟨F, io, e, st, s, h⟩ => ?_
  refine (tag2 (chn_tag (Q := fun b H2 => Q b H2) s h fun b e' st' k H' po => ?_)).mono fun x H1 q => q.mono fun y H2 q => ?_
  · obtain ⟨b', hb', k⟩ := k
    cases hb'
    exact k H' po
  · obtain ⟨F2, io2, d1, j, b, ⟨r1, r2, _⟩, hc, k⟩ := q
    refine ⟨F2, io2, d1, .int j, b, S.K ▸ r1, S.K ▸ r2, hc, b, rfl, ?_⟩
    split at k
    · rename_i hb
      rw [if_pos hb]
      refine k.mono fun w H4 ⟨F3, io3, z, b', g1, g2, g3⟩ => ⟨F3, io3, .int j, z, b', ?_, .inl (S.K ▸ g1), g2, b', rfl, g3⟩
      rw [r2.int]
      exact .inl (.int j)
    · rename_i hb
      rw [if_neg hb]
      exact ⟨false, rfl, k⟩
/-! ### displays -/
theorem e_tup {k0 : Nat} (h : EsOK X p es l) : PE X (.Tuple l k0 pos) (tev p (.tup es)) := by
  refine PE.imp (pe_tup h.pes.pa) fun σ H Q ⟨F, io, e, st, s, h⟩ => ?_
  rw [ev] at h
  refine ⟨F, io, e, st, s, h.of_bind.mono (fun as e' st' k vs H' ⟨F', io', y, s', q⟩ => ?_) fun _ _ _ x => x⟩
  split at k
  · rename_i ds hds
    split at k
    · rename_i hl
      obtain ⟨F2, y2, s2, r⟩ := s'.fz q hds
      refine ⟨by rw [r.length, ← sizeMax_eq]; exact hl, fun p hp => k _ _ (PoE.ext (y.trans y2) (NV.po s2 (.tup hp r)))⟩
    · exact k.elim
  · exact k.elim
theorem e_lst {ll : Bool} (h : EsOK X p es l) : PE X (.List l pos) (tev p (.lst ll es)) := by
  refine PE.imp (pe_lst h.pes.pa) fun σ H Q ⟨F, io, e, st, s, h⟩ => ?_
  rw [ev] at h
  refine ⟨F, io, e, st, s, h.of_bind.mono (fun as e' st' k vs H' ⟨F', io', y, s', q⟩ => ?_) fun _ _ _ x => x⟩
  split at k
  · rename_i ds hds
    split at k
    · rename_i hl
      obtain ⟨F2, y2, s2, r⟩ := s'.fz q hds
      refine ⟨by rw [r.length, ← sizeMax_eq]; exact hl, fun p hp => ?_⟩
      obtain ⟨r', e2, st2, k, po⟩ := stow_po k (PoE.ext (y.trans y2) (NV.po s2 (.lst hp r)))
      exact k _ _ po
    · exact k.elim
  · exact k.elim
/-! ### subscripts -/
theorem atD_at {K : PySem.W.Frag} {vs : List V} {ds : List D} {i : Int} {d : D} (h : RepL K H F io vs ds) (q : atD ds i = some d) : ∃ v, atI vs i = some v ∧ Rep K H F io v d := by
  unfold atD atI at q
  rw [← h.length] at q
  simp only [Option.bind_eq_some_iff] at q
  obtain ⟨j, q1, q2⟩ := q
  obtain ⟨v, g1, g2⟩ := h.get q2
  exact ⟨v, by unfold atI; rw [q1]; exact g1, g2⟩
def rSub (K : PySem.W.Frag) : R2 := fun x y H Q => ∃ F io dx dy d, RO K H F io x dx ∧ RO K H F io y dy ∧ subD dx dy = some d ∧ ∀ v, Rep K H F io v d → Q v H
theorem IxR.imp {r r' : R2} (h : IxR X r) (i : ∀ x y H Q, r' x y H Q → r x y H Q) : IxR X r' := fun a b pins s σ H x y v u Q I rx ry q hs => h a b pins s σ H x y v u Q I rx ry (i _ _ _ _ q) hs
theorem ix_sub : IxR X (rSub X.K) := by
  refine IxR.imp ix_seq ?_
  rintro x y H Q ⟨F, io, dx, dy, d, hx, hy, e, q⟩
  cases dx <;> simp only [subD] at e <;> try contradiction
  · cases dy <;> simp only [] at e <;> try contradiction
    split at e
    · rename_i hl
      simp only [Option.map_eq_some_iff] at e
      obtain ⟨c, e1, rfl⟩ := e
      exact .inr (.inr ⟨_, _, c, hx.str, hy.int, by rw [← sizeMax_eq]; exact hl, e1, q _ (.str _)⟩)
    · contradiction
  · cases dy <;> simp only [] at e <;> try contradiction
    obtain ⟨a, xs, rfl, ha, ra⟩ := hx.tup
    obtain ⟨v, g1, g2⟩ := atD_at ra e
    exact .inr (.inl ⟨a, xs, _, v, rfl, hy.int, ha, g1, q _ g2⟩)
  · cases dy <;> simp only [] at e <;> try contradiction
    obtain ⟨a, xs, rfl, ha, ra⟩ := hx.lst
    obtain ⟨v, g1, g2⟩ := atD_at ra e
    exact .inl ⟨a, xs, _, v, rfl, hy.int, ha, g1, q _ g2⟩
  · rcases hx with hx | ⟨_, _, _, _, _, _, q⟩
    · cases hx
    · cases q
theorem e_sub (S : Sok p X) (h : EsOK X p es [a, b]) : PE X (.Subscript a b pos) (tev p (.sub es)) := by
  obtain ⟨ca, cb, rfl, ha, hb⟩ := h.two
  refine PE.imp (pe_ix ix_sub ha.par hb.par hb.px) fun σ H Q ⟨F, io, e, st, s, h⟩ => ?_
  rw [ev] at h
  refine (tag2 (op_tag s h)).mono fun x H1 q => q.mono fun y H2 q => ?_
  obtain ⟨F2, io2, ds, r, hr, hg, k⟩ := q
  match ds, hr, hg with
  | [d1, d2], ⟨r1, r2, _⟩, hg =>
    simp only [subO, Option.map_eq_some_iff] at hg
    obtain ⟨d, hd, rfl⟩ := hg
    exact ⟨F2, io2, d1, d2, d, S.K ▸ r1, S.K ▸ r2, hd, fun v q => k v H2 (.val (S.K ▸ q))⟩
/-- slices -/
def rSlc (K : PySem.W.Frag) : V → Option Int → Option Int → Hp → VK → Prop := fun x lo hi H Q => ∃ F io d r, RO K H F io x d ∧ slcD d lo hi = some r ∧ ∀ v H', NV K H F io r v H' → Q v H'
theorem SlR.imp {r r' : V → Option Int → Option Int → Hp → VK → Prop} (h : SlR X r) (i : ∀ x lo hi H Q, r' x lo hi H Q → r x lo hi H Q) : SlR X r' := fun pins s σ H x v vl vu lo hi sl Q I rx hs pl pu q => h pins s σ H x v vl vu lo hi sl Q I rx hs pl pu (i _ _ _ _ _ q)
theorem cut_rep {K : PySem.W.Frag} {vs : List V} {ds : List D} (h : RepL K H F io vs ds) (lo hi : Option Int) : RepL K H F io (cutV vs lo hi) (cutL ds lo hi) := by
  unfold cutV cutL
  rw [h.length]
  exact (h.drop _).take _
theorem sl_slc : SlR X (rSlc X.K) := by
  refine SlR.imp (sl_list.or (sl_tupA.or sl_str)) ?_
  rintro x lo hi H Q ⟨F, io, d, r, hx, e, q⟩
  cases d <;> simp only [slcD, nul] at e <;> try contradiction
  · split at e
    · rename_i hl; cases e
      exact .inr (.inr ⟨_, hx.str, by rw [← sizeMax_eq]; exact hl, q _ _ (.str _)⟩)
    · contradiction
  · cases e
    obtain ⟨a, xs, rfl, ha, ra⟩ := hx.tup
    refine .inr (.inl ⟨a, xs, rfl, ha, fun ⟨h1, h2⟩ => ?_, fun _ p hp => q _ _ (.tup hp (cut_rep ra lo hi))⟩)
    refine q _ _ (.val ?_)
    have e1 : cutV xs lo hi = xs := by unfold cutV; rw [h1, h2]; simp
    have := cut_rep ra lo hi
    rw [e1] at this
    exact .tup ha this
  · cases e
    obtain ⟨a, xs, rfl, ha, ra⟩ := hx.lst
    exact .inl ⟨a, xs, rfl, ha, fun p hp => q _ _ (.lst hp (cut_rep ra lo hi))⟩
theorem slc_end {f : V → Option Int × Option Int} {lo hi : Option Int} {d : D} {r : DB} {Q : VK} {x : V} (S : Sok p X) (hx : RO p.K H F io x d) (g : slcD d lo hi = some r) (k : ∀ v H', NV p.K H F io r v H' → Q v H') : rSlc X.K x lo hi H Q :=
  ⟨F, io, d, r, S.K ▸ hx, g, fun v H' nv => k v H' (S.K ▸ nv)⟩
theorem e_slc0 {p2 : Pos} {ca : E} (S : Sok p X) (ha : EOK X p a ca) : PE X (.Subscript a (.Slice none none none p2) pos) (tev p (.slc 0 (.cons ca .nil))) := by
  refine PE.imp (pe_slice sl_slc ha.par po_none po_none) fun σ H Q ⟨F, io, e, st, s, h⟩ => ?_
  rw [ev] at h
  refine (tag1 (op_tag s h)).mono fun x H1 q => ?_
  obtain ⟨F2, io2, ds, r, hr, hg, k⟩ := q
  match ds, hr, hg with
  | [d1], ⟨r1, _⟩, hg => exact slc_end (f := fun _ => (none, none)) S r1 hg k
theorem e_slc1 {p2 : Pos} {ca cb : E} (S : Sok p X) (ha : EOK X p a ca) (hb : EOK X p b cb) : PE X (.Subscript a (.Slice (some b) none none p2) pos) (tev p (.slc 1 (.cons ca (.cons cb .nil)))) := by
  refine PE.imp (pe_slice sl_slc ha.par (po_some hb.par) po_none) fun σ H Q ⟨F, io, e, st, s, h⟩ => ?_
  rw [ev] at h
  refine (tag2 (op_tag s h)).mono fun x H1 q => q.mono fun y H2 q => ?_
  obtain ⟨F2, io2, ds, r, hr, hg, k⟩ := q
  match ds, hr, hg with
  | [d1, .int i], ⟨r1, r2, _⟩, hg => exact ⟨i, r2.int, slc_end (f := fun _ => (none, none)) S r1 hg k⟩
theorem e_slc2 {p2 : Pos} {ca cb : E} (S : Sok p X) (ha : EOK X p a ca) (hb : EOK X p b cb) : PE X (.Subscript a (.Slice none (some b) none p2) pos) (tev p (.slc 2 (.cons ca (.cons cb .nil)))) := by
  refine PE.imp (pe_slice sl_slc ha.par po_none (po_some hb.par)) fun σ H Q ⟨F, io, e, st, s, h⟩ => ?_
  rw [ev] at h
  refine (tag2 (op_tag s h)).mono fun x H1 q => q.mono fun y H2 q => ?_
  obtain ⟨F2, io2, ds, r, hr, hg, k⟩ := q
  match ds, hr, hg with
  | [d1, .int i], ⟨r1, r2, _⟩, hg => exact ⟨i, r2.int, slc_end (f := fun _ => (none, none)) S r1 hg k⟩
theorem ROL.snoc {K : PySem.W.Frag} : ∀ {vs : List V} {ds : List D} {v : V} {d : D}, ROL K H F io vs ds → RO K H F io v d → ROL K H F io (vs ++ [v]) (ds ++ [d])
  | [], [], _, _, _, h => ⟨h, trivial⟩
  | _ :: _, _ :: _, _, _, ⟨h1, h2⟩, h => ⟨h1, ROL.snoc h2 h⟩
  | [], _ :: _, _, _, h, _ => h.elim
  | _ :: _, [], _, _, h, _ => h.elim
theorem e_slc3 {p2 : Pos} {cc : E} {b2 : Expr} (S : Sok p X) (h : EsOK X p es [a, b]) (hc : EOK X p b2 cc) : PE X (.Subscript a (.Slice (some b) (some b2) none p2) pos) (tev p (.slb es cc)) := by
  obtain ⟨ca, cb, rfl, ha, hb⟩ := h.two
  refine PE.imp (pe_slice sl_slc ha.par (po_some hb.par) (po_some hc.pe)) fun σ H Q ⟨F, io, e, st, s, h⟩ => ?_
  rw [ev] at h
  have T : tag p (.cons ca (.cons cb .nil)) σ H fun vs H2 => ∃ x i, vs = [x, .int i] ∧ tev p cc σ H2 fun w H3 => ∃ j, w = .int j ∧ rSlc X.K x (some i) (some j) H3 Q := by
    refine ⟨F, io, e, st, s, h.of_bind.mono (fun as e' st' k vs H' ⟨F', io', y, s', q⟩ => ?_) fun _ _ _ x => x⟩
    split at k
    · rename_i d1 i hds
      have ro := s'.ro q hds
      match vs, ro with
      | [x, y'], ⟨r1, r2, _⟩ =>
        have hy := r2.int
        subst hy
        refine ⟨x, i, rfl, F', io', e', st', s', k.of_bind.mono (fun r e2 st2 k2 w H3 po => ?_) fun _ _ _ x => XW.ext y x⟩
        obtain ⟨F2, io2, y2, s2, q2⟩ := po.frz
        unfold opR at k2
        split at k2
        · rename_i ds hds2
          obtain ⟨r', hr, k3⟩ := k2.of_of
          simp only [Option.bind_eq_some_iff] at hds2
          obtain ⟨ds0, g1, g2⟩ := hds2
          have ro2 := (s2.ro (ArL.ext y2 q) g1).ders s2.cel g2
          match ds, ro2, hr with
          | [d1', d2'], ⟨p1, p2, _⟩, hr =>
            simp only [List.cons_append, List.nil_append] at hr
            cases d2' <;> cases h3 : r.1 <;> rw [h3] at hr <;> simp only [slcO] at hr <;> try contradiction
            rw [h3] at q2
            have e1 := p2.int
            cases e1
            exact ⟨_, RO.int (.inl q2), slc_end (f := fun _ => (none, none)) S p1 hr fun v H' nv => k3 v H' (PoE.ext (y.trans y2) (NV.po s2 nv))⟩
        · exact k2.elim
    · exact k.elim
  refine (tag2 T).mono fun x H1 q => q.mono fun y H2 ⟨x', i, e1, q⟩ => ?_
  cases e1
  exact ⟨i, rfl, q⟩
end
end Pv
namespace Pv
open PySem PySem.Spec PyProof.Rows L2
section
variable {p : Px} {X : Cx} {es : Es} {c : E} {ex a b : Expr} {l : List Expr} {pos : Pos} {F F' : Zn} {io io' : List Addr} {H H' : Hp} {e : En} {st : Sto} {σ : L2.St}
/-! ### built-in functions -/
def rB (K : PySem.W.Frag) (f : Str) : List V → Hp → VK → Prop := fun vs H Q => ∃ F io ds r, ROL K H F io vs ds ∧ bltD f ds = some r ∧ ∀ v H', NV K H F io r v H' → Q v H'
theorem CallR.imp {f : Value} {r r' : List V → Hp → VK → Prop} (h : CallR X f r) (i : ∀ x H Q, r' x H Q → r x H Q) : CallR X f r' := fun pins s σ H xs us Q I rs q => h pins s σ H xs us Q I rs (i _ _ _ q)
theorem ROL.one {K : PySem.W.Frag} {vs : List V} {d : D} (h : ROL K H F io vs [d]) : ∃ v, vs = [v] ∧ RO K H F io v d := by
  match vs, h with
  | [v], ⟨h, _⟩ => exact ⟨v, rfl, h⟩
theorem ROL.two {K : PySem.W.Frag} {vs : List V} {d d' : D} (h : ROL K H F io vs [d, d']) : ∃ v v', vs = [v, v'] ∧ RO K H F io v d ∧ RO K H F io v' d' := by
  match vs, h with
  | [v, v'], ⟨h, h', _⟩ => exact ⟨v, v', rfl, h, h'⟩
theorem b_len : CallR X (.builtin "len") (rB X.K "len") := by
  refine CallR.imp call_len ?_
  rintro vs H Q ⟨F, io, ds, r, hr, e, q⟩
  unfold bltD at e
  rw [if_pos rfl] at e
  split at e <;> (try simp only [nul] at e) <;> try contradiction
  · cases e
    obtain ⟨v, rfl, h⟩ := hr.one
    obtain ⟨a, xs, rfl, ha, ra⟩ := h.lst
    exact ⟨_, xs.length, rfl, .inl ⟨xs, ha, rfl⟩, by rw [ra.length]; exact q _ _ (.int _)⟩
  · cases e
    obtain ⟨v, rfl, h⟩ := hr.one
    obtain ⟨a, xs, rfl, ha, ra⟩ := h.tup
    exact ⟨_, xs.length, rfl, .inr ⟨xs, ha, rfl⟩, by rw [ra.length]; exact q _ _ (.int _)⟩
  · split at e
    · rename_i hl; cases e
      obtain ⟨v, rfl, h⟩ := hr.one
      rw [h.str]
      exact ⟨_, _, rfl, ⟨by rw [← sizeMax_eq]; exact hl, rfl⟩, q _ _ (.int _)⟩
    · contradiction
  · cases e
    obtain ⟨v, rfl, h⟩ := hr.one
    rcases h with h | ⟨_, _, _, _, _, _, q⟩
    · cases h
    · cases q
theorem b_abs : CallR X (.builtin "abs") (rB X.K "abs") := by
  refine CallR.imp call_abs ?_
  rintro vs H Q ⟨F, io, ds, r, hr, e, q⟩
  unfold bltD at e
  rw [if_neg (by decide), if_pos rfl] at e
  split at e <;> (try simp only [nul] at e) <;> try contradiction
  cases e
  obtain ⟨v, rfl, h⟩ := hr.one
  exact ⟨_, by rw [h.int], q _ _ (.int _)⟩
theorem b_int : CallR X (.type "int") (rB X.K "int") := by
  refine CallR.imp call_int1 ?_
  rintro vs H Q ⟨F, io, ds, r, hr, e, q⟩
  unfold bltD at e
  rw [if_neg (by decide), if_neg (by decide), if_pos rfl] at e
  split at e <;> (try simp only [nul] at e) <;> try contradiction
  cases e
  obtain ⟨v, rfl, h⟩ := hr.one
  exact .inl ⟨_, by rw [h.int], q _ _ (.int _)⟩
theorem b_list : CallR X (.type "list") (rB X.K "list") := by
  refine CallR.imp call_list_of ?_
  rintro vs H Q ⟨F, io, ds, r, hr, e, q⟩
  unfold bltD at e
  rw [if_neg (by decide), if_neg (by decide), if_neg (by decide), if_pos rfl] at e
  split at e <;> (try simp only [nul] at e) <;> try contradiction
  · cases e
    obtain ⟨v, rfl, h⟩ := hr.one
    obtain ⟨a, xs, rfl, ha, ra⟩ := h.lst
    exact ⟨a, xs, rfl, .inl ha, fun p hp => q _ _ (.lst hp ra)⟩
  · cases e
    obtain ⟨v, rfl, h⟩ := hr.one
    obtain ⟨a, xs, rfl, ha, ra⟩ := h.tup
    exact ⟨a, xs, rfl, .inr ha, fun p hp => q _ _ (.lst hp ra)⟩
theorem b_tuple : CallR X (.type "tuple") (rB X.K "tuple") := by
  refine CallR.imp call_tuple_of ?_
  rintro vs H Q ⟨F, io, ds, r, hr, e, q⟩
  unfold bltD at e
  rw [if_neg (by decide), if_neg (by decide), if_neg (by decide), if_neg (by decide), if_pos rfl] at e
  split at e <;> (try simp only [nul] at e) <;> try contradiction
  · cases e
    obtain ⟨v, rfl, h⟩ := hr.one
    obtain ⟨a, xs, rfl, ha, ra⟩ := h.lst
    exact ⟨a, xs, rfl, .inl ⟨ha, fun p hp => q _ _ (.tup hp ra)⟩⟩
  · cases e
    obtain ⟨v, rfl, h⟩ := hr.one
    obtain ⟨a, xs, rfl, ha, ra⟩ := h.tup
    exact ⟨a, xs, rfl, .inr ⟨ha, q _ _ (.val (.tup ha ra))⟩⟩
theorem b_max (hc : X.calm = true) : CallR X (.builtin "max") (rB X.K "max") := by
  refine CallR.imp (call_max2 hc) ?_
  rintro vs H Q ⟨F, io, ds, r, hr, e, q⟩
  unfold bltD at e
  rw [if_neg (by decide), if_neg (by decide), if_neg (by decide), if_neg (by decide), if_neg (by decide), if_pos rfl] at e
  split at e <;> (try simp only [nul] at e) <;> try contradiction
  cases e
  obtain ⟨v, v', rfl, h, h'⟩ := hr.two
  exact ⟨_, _, by rw [h.int, h'.int], q _ _ (.int _)⟩
theorem b_min (hc : X.calm = true) : CallR X (.builtin "min") (rB X.K "min") := by
  refine CallR.imp (call_min2 hc) ?_
  rintro vs H Q ⟨F, io, ds, r, hr, e, q⟩
  unfold bltD at e
  rw [if_neg (by decide), if_neg (by decide), if_neg (by decide), if_neg (by decide), if_neg (by decide), if_neg (by decide), if_pos rfl] at e
  split at e <;> (try simp only [nul] at e) <;> try contradiction
  cases e
  obtain ⟨v, v', rfl, h, h'⟩ := hr.two
  exact ⟨_, _, by rw [h.int, h'.int], q _ _ (.int _)⟩
theorem RO.ty {K : PySem.W.Frag} {v : V} {d : D} {n : String} (h : RO K H F io v d) (q : tyD d = some n) : TyX K H v (.type n) := by
  cases d <;> simp only [tyD] at q <;> try contradiction
  · cases q; rw [h.none]; exact .base .non
  · cases q; rw [h.bl]; exact .base (.bl _)
  · cases q; rw [h.int]; exact .base (.int _)
  · cases q; rw [h.str]; exact .base (.str _)
  · cases q
    obtain ⟨a, xs, rfl, ha, _⟩ := h.tup
    rcases ha with (ha | ⟨o, ha⟩) | ⟨o, its, n, h1, h2, _⟩
    · exact .base (.tup ha)
    · exact .fTuple ha
    · exact .kTuple h1 h2
  · cases q
    obtain ⟨a, xs, rfl, ha, _⟩ := h.lst
    rcases ha with (ha | ⟨o, ha⟩) | ⟨o, its, n, h1, h2, _⟩
    · exact .base (.lst ha)
    · exact .base (.frz ha)
    · exact .kList h1 h2
theorem tyD_mem {d : D} {m : String} (h : tyD d = some m) : m ∈ ["NoneType", "bool", "int", "str", "tuple", "list"] := by
  cases d <;> simp only [tyD] at h <;> first | contradiction | (cases h; decide)
theorem kit_all : ∀ m ∈ ["NoneType", "bool", "int", "str", "tuple", "list"], kitB m "int" = some (m == "int" || m == "bool") ∧ kitB m "bool" = some (m == "bool") ∧ kitB m "str" = some (m == "str") ∧ kitB m "tuple" = some (m == "tuple") ∧ kitB m "list" = some (m == "list") := by decide +kernel
theorem kit_tab {K : PySem.W.Frag} {n : String} {d : D} {b : Bool} (h : typeOK n d = some b) : ∃ m, tyD d = some m ∧ PySem.W.kitOne K (.type m) (.type n) = some b := by
  unfold typeOK at h
  simp only [Option.bind_eq_some_iff] at h
  obtain ⟨m, hm, h⟩ := h
  obtain ⟨k1, k2, k3, k4, k5⟩ := kit_all m (tyD_mem hm)
  refine ⟨m, hm, kit_ty ?_⟩
  split at h
  · rename_i e; subst e; rw [k1]; exact h
  · split at h
    · rename_i e; subst e; rw [k2]; exact h
    · split at h
      · rename_i e; subst e; rw [k3]; exact h
      · split at h
        · rename_i e; subst e; rw [k4]; exact h
        · split at h
          · rename_i e; subst e; rw [k5]; exact h
          · contradiction
theorem b_isi : CallR X (.builtin "isinstance") (rB X.K "isinstance") := by
  refine CallR.imp call_isi ?_
  rintro vs H Q ⟨F, io, ds, r, hr, e, q⟩
  unfold bltD at e
  rw [if_neg (by decide), if_neg (by decide), if_neg (by decide), if_neg (by decide), if_neg (by decide), if_neg (by decide), if_neg (by decide), if_pos rfl] at e
  split at e <;> (try simp only [nul] at e) <;> try contradiction
  rename_i d n
  simp only [Option.map_eq_some_iff] at e
  obtain ⟨b, e, rfl⟩ := e
  obtain ⟨v, v', rfl, h, h'⟩ := hr.two
  obtain ⟨m, g1, g2⟩ := kit_tab (K := X.K) e
  have hv : v' = .ty n := by
    rcases h' with h' | ⟨_, _, _, _, _, _, q⟩
    · cases h'; rfl
    · cases q
  subst hv
  exact ⟨v, _, _, _, b, rfl, .ty n, h.ty g1, g2, q _ _ (.bl _)⟩
/-- a call of a built-in -/
theorem e_blt_of {x : Str} {f : Value} {pp : Pos} (S : Sok p X) (h : PE X (.Call (.Name x pp) l [] pos) (tCB (rB X.K x) (tag p es))) : PE X (.Call (.Name x pp) l [] pos) (tev p (.blt x es)) := by
  refine PE.imp h fun σ H Q ⟨F, io, e, st, s, h⟩ => ?_
  rw [ev] at h
  refine (op_tag s h).mono fun vs H1 q => ?_
  obtain ⟨F2, io2, ds, r, hr, hg, k⟩ := q
  exact ⟨F2, io2, ds, r, S.K ▸ hr, hg, fun v H' nv => k v H' (S.K ▸ nv)⟩
theorem EsOK.head {ex : Expr} (h : EsOK X p es (ex :: l)) : starEach (ex :: l) X.env = (false, eval ex X.env) :: starEach l X.env := by
  cases h with
  | cons h1 _ => exact h1.ns l
theorem EsOK.tail {ex : Expr} (h : EsOK X p es (ex :: l)) (pos : Pos) : (backTo pos (starEach l X.env)).any (·.1) = false := by
  cases h with
  | cons _ h2 => exact h2.pes.plain pos
theorem e_blt {x : Str} {pp : Pos} (S : Sok p X) (hg : Gl X x) (hx : x ∈ (["len", "abs", "int", "list", "tuple", "max", "min", "isinstance"] : List Str)) (h : EsOK X p es (ex :: l)) :
    PE X (.Call (.Name x pp) (ex :: l) [] pos) (tev p (.blt x es)) := by
  have hm : X.mg x = none := S.blt x (by
    simp only [List.mem_cons, List.not_mem_nil, or_false] at hx ⊢
    rcases hx with h | h | h | h | h | h | h | h <;> simp [h])
  have pa := h.pes.pa
  have hh := h.head
  have ht := h.tail pos
  simp only [List.mem_cons, List.not_mem_nil, or_false] at hx
  rcases hx with rfl | rfl | rfl | rfl | rfl | rfl | rfl | rfl
  · exact e_blt_of (f := .none) S (pe_callB b_len hg hm PySem.boot_len pa (by decide) (by decide) hh ht)
  · exact e_blt_of (f := .none) S (pe_callB b_abs hg hm (by decide +kernel) pa (by decide) (by decide) hh ht)
  · exact e_blt_of (f := .none) S (pe_callTy b_int hg hm (by decide +kernel) pa (by decide) (by decide) hh ht)
  · exact e_blt_of (f := .none) S (pe_callTy b_list hg hm (by decide +kernel) pa (by decide) (by decide) hh ht)
  · exact e_blt_of (f := .none) S (pe_callTy b_tuple hg hm (by decide +kernel) pa (by decide) (by decide) hh ht)
  · exact e_blt_of (f := .none) S (pe_callB (b_max S.calm) hg hm (by decide +kernel) pa (by decide) (by decide) hh ht)
  · exact e_blt_of (f := .none) S (pe_callB (b_min S.calm) hg hm (by decide +kernel) pa (by decide) (by decide) hh ht)
  · exact e_blt_of (f := .none) S (pe_callB b_isi hg hm (by decide +kernel) pa (by decide) (by decide) hh ht)
/-! ### the text's own defs -/
theorem e_call {x : Str} {pp : Pos} {pu : Bool} (S : Sok p X) (hdn : p.dn x = true) (hg : Gl X x) (hdb : (x == ("__debug__" : Str)) = false) (h : EsOK X p es l) : PE X (.Call (.Name x pp) l [] pos) (tev p (.call pu x es)) := by
  obtain ⟨a, fd, ps, k, hm, Fn, hr, hk, hb⟩ := S.tab x hdn
  have go : ∀ {t : TA}, (∀ σ H Q, tev p (.call pu x es) σ H Q → tag p es σ H fun vs H1 => spT X.K X.mg (p.B x) vs H1 Q (WE p.W σ)) → PE X (.Call (.Name x pp) l [] pos) (tev p (.call pu x es)) := by
    intro t i
    cases l with
    | nil =>
      refine ⟨fun pins s σ H Q I q => ?_⟩
      refine wpAny_Call_Name_kw (ld_glob I hg hm ?_ hdb)
      have q2 := i σ H Q q
      cases h
      exact PySem.W.callWith_K0 I.kIn hk (run_fnS (us := []) Fn hr hb (passAt S.tk σ) I .nil (tag_nil q2))
    | cons ex l =>
      exact PE.imp (pe_callS Fn hr hg hm hk hb (fun σ => passAt S.tk σ) h.pes.pa hdb h.head (h.tail pos)) fun σ H Q q => i σ H Q q
  refine go (t := tag p es) fun σ H Q ⟨F, io, e, st, s, h⟩ => ?_
  rw [ev] at h
  refine ⟨F, io, e, st, s, h.of_bind.mono (fun as e' st' k vs H' ⟨F', io', y, s', q⟩ => ?_) fun _ _ _ x => x⟩
  split at k
  · rename_i ds hds
    obtain ⟨F2, y2, s2, r⟩ := s'.fz q hds
    rw [S.K, S.mg]
    split at k
    · split at k
      · rename_i hn
        -- pure
        refine ⟨F2, [], ds, [], s2.cel.pure, r.nol [] hn, ?_⟩
        unfold callP at k
        split at k
        · rename_i d w st2 hB
          try rw [hB]
          intro v H2 po
          split at k
          · rename_i ht
            exact k v H2 (PoE.ext y (s'.callT ht po))
          · split at k
            · rename_i hn2
              exact k v H2 (PoE.ext (y.trans y2) (s2.callN hn2 po))
            · exact k.elim
        · exact k.elim
      · exact k.elim
    · refine ⟨F2, io', ds, st', s2.cel, r, ?_⟩
      unfold callS at k
      split at k
      · rename_i d w st2 hB
        try rw [hB]
        intro v H2 po
        exact k v H2 (PoE.ext (y.trans y2) (s2.callR po))
      · rename_i x st2 hB
        try rw [hB]
        intro cls dd H2 ⟨F3, io3, x3, c3, xr⟩
        exact k cls dd H2 ⟨F3, io3, (y.trans y2).trans (x3.ext s2.cel), s2.call x3 c3, xr⟩
      · exact k.elim
  · exact k.elim
end
end Pv
namespace Pv
open PySem PySem.Spec PyProof.Rows L2
section
variable {p : Px} {X : Cx} {es : Es} {c : E} {ex a b : Expr} {l : List Expr} {pos : Pos} {F F' : Zn} {io io' : List Addr} {H H' : Hp} {e : En} {st : Sto} {σ : L2.St}
/-! ### methods that change a list -/
def rChg (K : PySem.W.Frag) (m : Str) : V → List V → Hp → VK → Prop := fun v vs H Q => ∃ F io ds a ws x r x', v = .ref a ∧ H a = some (.lst ws) ∧ RepL K H F io ws x ∧ RepL K H F io vs ds ∧ chgD m (.lst x) ds = some (r, x') ∧
  ∀ ws' xs' rv, RepL K H F io ws' xs' → x' = .lst xs' → Rep K H F io rv r → Q rv (upd H a (.lst ws'))
theorem MtR.imp {id : String} {r r' : V → List V → Hp → VK → Prop} (h : MtR X id r) (i : ∀ x xs H Q, r' x xs H Q → r x xs H Q) : MtR X id r' := fun pins s σ H x xs v us Q I rx rs q => h pins s σ H x xs v us Q I rx rs (i _ _ _ _ q)
theorem RepL.one {K : PySem.W.Frag} {vs : List V} {d : D} (h : RepL K H F io vs [d]) : ∃ v, vs = [v] ∧ Rep K H F io v d := by
  cases h with
  | cons a b => cases b; exact ⟨_, rfl, a⟩
theorem m_append : MtR X "list.append" (rChg X.K "append") := by
  refine MtR.imp (show MtR X "list.append" rAppend from mt_append) ?_
  rintro v vs H Q ⟨F, io, ds, a, ws, x, r, x', rfl, h1, h2, h3, hf, k⟩
  unfold chgD at hf
  rw [if_pos rfl] at hf
  split at hf
  · rename_i xs d e
    cases e
    split at hf
    · rename_i hl
      cases hf
      obtain ⟨y, rfl, hy⟩ := h3.one
      exact ⟨a, ws, y, rfl, rfl, h1, by rw [h2.length, ← sizeMax_eq]; exact hl, k _ _ _ (h2.snoc hy) rfl .non⟩
    · contradiction
  · contradiction
theorem ixN_ok {n : Nat} {i : Int} {k : Nat} (h : ixN n i = some k) : seqIndex? i n = some k := (ixN_seq h).1
theorem m_pop : MtR X "list.pop" (rChg X.K "pop") := by
  refine MtR.imp ((show MtR X "list.pop" rPop from mt_pop).or (show MtR X "list.pop" rPopAt from mt_popAt)) ?_
  rintro v vs H Q ⟨F, io, ds, a, ws, x, r, x', rfl, h1, h2, h3, hf, k⟩
  unfold chgD at hf
  rw [if_neg (by decide), if_pos rfl] at hf
  split at hf
  · rename_i xs e
    cases e
    simp only [Option.map_eq_some_iff] at hf
    obtain ⟨y, hy, e⟩ := hf
    cases e
    rw [← h2.length] at hy
    obtain ⟨w, g1, g2⟩ := h2.get hy
    cases h3
    exact .inl ⟨a, ws, w, rfl, rfl, h1, g1, k _ _ _ h2.dropLast rfl g2⟩
  · rename_i xs i e
    cases e
    split at hf
    · rename_i hb
      split at hf
      · rename_i j hj
        simp only [Option.map_eq_some_iff] at hf
        obtain ⟨y, hy, e⟩ := hf
        cases e
        obtain ⟨w, g1, g2⟩ := h2.get hy
        obtain ⟨u, rfl, hu⟩ := h3.one
        cases hu
        exact .inr ⟨a, ws, i, j, w, rfl, rfl, h1, hb.1, hb.2, by rw [h2.length]; exact ixN_ok hj, g1, k _ _ _ (h2.eraseIdx j) rfl g2⟩
      · contradiction
    · contradiction
  · contradiction
/-- the methods that are served -/
def Chg (X : Cx) (m : Str) (id : String) : Prop := PySem.PlainAttrs "list" ∧ PySem.Slot "list" m id ∧ PySem.typeOf (.builtin id) = pure (.type "method_descriptor") ∧ MtR X id (rChg X.K m)
theorem chg_append : Chg X "append" "list.append" := ⟨PySem.F.plainAttrs_list, PySem.F.slot_list_append, PySem.F.type_list_append, m_append⟩
theorem chg_pop : Chg X "pop" "list.pop" := ⟨PySem.F.plainAttrs_list, PySem.F.slot_list_pop, PySem.F.type_list_pop, m_pop⟩
theorem chg_of {m : Str} (h : isChg m = true) : ∃ id, Chg X m id := by
  unfold isChg at h
  simp only [Bool.or_eq_true, decide_eq_true_eq] at h
  rcases h with rfl | rfl
  · exact ⟨_, chg_append⟩
  · exact ⟨_, chg_pop⟩
/-- o.m(args) of a list -/
theorem pe_chg {m : Str} {o : Expr} {apos cpos : Pos} {to : TE} (hm : isChg m = true) (ho : PE X o to) (h : EsOK X p es l) (hl : l.length < 20)
    (hbase : attributeBase o m X.env (eval o X.env) = eval o X.env) (hline : (apos.endLine == cpos.line) = true)
    (mono : ∀ σ H Q Q', (∀ v H', Q v H' → Q' v H') → to σ H Q → to σ H Q') : PE X (.Call (.Attribute o m apos) l [] cpos) (fun σ H Q => to σ H fun x H1 => tyV X.K "list" x H1 ∧ tag p es σ H1 fun xs H2 => rChg X.K m x xs H2 Q) := by
  obtain ⟨id, pa, sl, ty, rule⟩ := chg_of (X := X) hm
  cases l with
  | nil =>
    cases h
    exact PE.imp (pe_bm0 pa sl ty rule ho hbase hline) fun σ H Q q => mono σ H _ _ (fun v H' q => ⟨q.1, tag_nil q.2⟩) q
  | cons ex l =>
    refine pe_bm pa sl ty rule ho h.pes.pa hbase ?_ hline h.head (h.tail cpos)
    rw [h.pes.star]
    have h1 : (backTo cpos (List.map (fun ex => (false, eval ex X.env)) (ex :: l))).all (fun x => !x.1) = true := by
      unfold backTo
      rw [List.map_map, List.all_map, List.all_eq_true]
      intro x _; rfl
    have h2 : (ex :: l).length + ([] : List Keyword).length + (if ([] : List Keyword).isEmpty then 0 else 1) < 30 := by
      show (ex :: l).length + 0 + 0 < 30
      omega
    rw [h1, decide_eq_true h2]; rfl
/-- behind the receiver -/
theorem chv_go {m : Str} {Q : VK} {P : DB → En → Sto → Prop} {v : V} {i : Nat} (hσ : σ[i]? = some (some v)) (s : SR p.K p.z F io e st σ H)
    (h : Res ((ag p.B p.G es e st).bind fun as e s => match rd e as with
      | some ds => chgS (fun x => chgD m x ds) i (fz e as) s
      | none => .no) P (XW p F io H σ)) (hP : ∀ r e' st', P r e' st' → ∀ v H', PoE p.K p.z F io H e' st' σ r v H' → Q v H') : tag p es σ H fun xs H2 => rChg p.K m v xs H2 Q := by
  refine ⟨F, io, e, st, s, h.of_bind.mono (fun as e' st' k vs H' ⟨F', io', y, s', q⟩ => ?_) fun _ _ _ x => x⟩
  split at k
  · rename_i ds hds
    obtain ⟨F2, y2, s2, r⟩ := s'.fz q hds
    obtain ⟨a, ws, x, r', x', rfl, g1, g2, g3, g4⟩ := chgS_po s2 hσ k
    refine ⟨F2, io', ds, a, ws, x, r', x', rfl, g1, g2, r, g3, fun ws' xs' rv q1 q2 q3 => ?_⟩
    obtain ⟨e2, st2, k, y3, s3⟩ := g4 ws' xs' q1 q2
    exact hP _ _ _ k _ _ ⟨F2, io', (y.trans y2).trans y3, s3, q3.ext y3⟩
  · exact k.elim
theorem cho_go {m : Str} {Q : VK} {P : DB → En → Sto → Prop} {v : V} {d : D} (hv : Rep p.K H F io v d) (s : SR p.K p.z F io e st σ H)
    (h : Res ((ag p.B p.G es e st).bind fun as e s => match rd e as with
      | some ds => chgO (fun x => chgD m x ds) d (fz e as) s
      | none => .no) P (XW p F io H σ)) (hP : ∀ r e' st', P r e' st' → ∀ v H', PoE p.K p.z F io H e' st' σ r v H' → Q v H') : tag p es σ H fun xs H2 => rChg p.K m v xs H2 Q := by
  refine ⟨F, io, e, st, s, h.of_bind.mono (fun as e' st' k vs H' ⟨F', io', y, s', q⟩ => ?_) fun _ _ _ x => x⟩
  split at k
  · rename_i ds hds
    obtain ⟨F2, y2, s2, r⟩ := s'.fz q hds
    obtain ⟨a, ws, x, r', x', rfl, g1, g2, g3, g4⟩ := chgO_po s2 ((hv.ext y).ext y2) k
    refine ⟨F2, io', ds, a, ws, x, r', x', rfl, g1, g2, r, g3, fun ws' xs' rv q1 q2 q3 => ?_⟩
    obtain ⟨e2, st2, k, y3, s3⟩ := g4 ws' xs' q1 q2
    exact hP _ _ _ k _ _ ⟨F2, io', (y.trans y2).trans y3, s3, q3.ext y3⟩
  · exact k.elim
theorem e_chv {m x : Str} {i : Nat} {xp apos cpos : Pos} (S : Sok p X) (hm : isChg m = true) (h : EsOK X p es l) (hl : l.length < 20) (hN : X.N[i]? = some x) (hv : Vis X.env.scope x) (hd : (x == ("__debug__" : Str)) = false) (hcd : (x == ("__classdict__" : Str)) = false)
    (hline : (apos.endLine == cpos.line) = true) : PE X (.Call (.Attribute (.Name x xp) m apos) l [] cpos) (tev p (.chv m i es)) := by
  refine PE.imp (pe_chg hm (pe_var hN hv hd hcd) h hl rfl hline fun σ H Q Q' m ⟨v, e, q⟩ => ⟨v, e, m _ _ q⟩) fun σ H Q ⟨F, io, e, st, s, h⟩ => ?_
  rw [ev] at h
  split at h
  · rename_i hi
    obtain ⟨v, hσ⟩ := isDef_slot s (isLst_def hi)
    exact ⟨v, hσ, S.K ▸ isLst_ty s hi hσ, S.K ▸ chv_go hσ s h fun r e' st' k => k⟩
  · exact h.elim
theorem e_cho {m : Str} {o : Expr} {apos cpos : Pos} (S : Sok p X) (hm : isChg m = true) (ho : EOK X p o c) (h : EsOK X p es l) (hl : l.length < 20)
    (hbase : attributeBase o m X.env (eval o X.env) = eval o X.env) (hline : (apos.endLine == cpos.line) = true) : PE X (.Call (.Attribute o m apos) l [] cpos) (tev p (.cho m c es)) := by
  refine PE.imp (pe_chg hm ho.pe h hl hbase hline fun σ H Q Q' m q => q.mono m) fun σ H Q ⟨F, io, e, st, s, h⟩ => ?_
  rw [ev] at h
  refine ⟨F, io, e, st, s, h.of_bind.mono (fun r e' st' k v H' po => ?_) fun _ _ _ x => x⟩
  split at k
  · rename_i hi
    obtain ⟨F', io', y, s', q⟩ := po.frz
    exact ⟨S.K ▸ isLoc_ty s' hi q, S.K ▸ cho_go q s' (Res.mono k (fun _ _ _ k => k) fun _ _ _ x => XW.ext y x) fun r e' st' k v H' po => k v H' (PoE.ext y po)⟩
  · exact k.elim
end
end Pv
namespace Pv
open PySem PySem.Spec PyProof.Rows L2
/-! ## targets -/
def PoG (K : PySem.W.Frag) (z : Zo) (F : Zn) (io : List Addr) (H : Hp) (e' : En) (st' : Sto) (σ' : L2.St) (H' : Hp) : Prop := ∃ F' io', Ext F io H F' io' H' ∧ SR K z F' io' e' st' σ' H'
def XS (p : Px) (F : Zn) (io : List Addr) (H : Hp) : Xc → En → Sto → Prop := fun x e' st' => ∀ σ' cls d H', PoX p F io H e' st' σ' x cls d H' → p.W cls d σ' H'
def gtv (p : Px) (t : T) : TG := fun v σ H Q => ∃ F io e st r, SR p.K p.z F io e st σ H ∧ VR p.K p.z H F io e σ v r ∧
  Res (asg p.B p.G t r e st) (fun _ e' st' => ∀ σ' H', PoG p.K p.z F io H e' st' σ' H' → Q σ' H') (XS p F io H)
def gtvs (p : Px) (t : Ts) : TGs := fun vs σ H Q => ∃ F io e st ds, SR p.K p.z F io e st σ H ∧ RepL p.K H F io vs ds ∧ ds.length = tsLen t ∧
  Res (asgs p.B p.G t ds e st) (fun _ e' st' => ∀ σ' H', PoG p.K p.z F io H e' st' σ' H' → Q σ' H') (XS p F io H)
section
variable {p : Px} {X : Cx} {F F' : Zn} {io io' : List Addr} {H H' : Hp} {e : En} {st : Sto} {σ : L2.St} {a b : Expr} {l : List Expr} {pos : Pos}
theorem XS.ext {x : Xc} {e' : En} {st' : Sto} (y : Ext F io H F' io' H') (h : XS p F io H x e' st') : XS p F' io' H' x e' st' := fun σ' cls d H2 ⟨F2, io2, y2, s, r⟩ => h σ' cls d H2 ⟨F2, io2, y.trans y2, s, r⟩
theorem XS.xw {x : Xc} {e' : En} {st' : Sto} (h : XS p F io H x e' st') : XW p F io H σ x e' st' := fun cls d H2 po => h σ cls d H2 po
theorem PoG.ext {e' : En} {st' : Sto} {σ' : L2.St} {H2 : Hp} (y : Ext F io H F' io' H') (h : PoG p.K p.z F' io' H' e' st' σ' H2) : PoG p.K p.z F io H e' st' σ' H2 := let ⟨F2, io2, y2, s⟩ := h; ⟨F2, io2, y.trans y2, s⟩
/-- a value is bound to a name -/
theorem SR.put {K : PySem.W.Frag} {z : Zo} {i : Nat} {v : V} {r : DB} (s : SR K z F io e st σ H) (h : VR K z H F io e σ v r) (hi : i < e.length) : SR K z F io (putN e i r) st (σ.set i (some v)) H := by
  have hi' : i < σ.length := by rw [← s.el]; exact hi
  obtain ⟨d, w⟩ := r
  refine ⟨s.cel, by simp [putN, s.el], fun j d' q => ?_, fun j d' q => ?_, fun j k d1 d2 b q1 q2 g1 g2 => ?_, s.frm, s.pre, s.fnw⟩
  · unfold putN at q
    by_cases hj : i = j
    · subst hj
      rw [List.getElem?_set_self hi] at q
      rw [List.getElem?_set_self hi']
      cases w with
      | true => cases q
      | false => cases q; exact ⟨v, rfl, h⟩
    · rw [List.getElem?_set_ne hj] at q ⊢
      exact s.fr j d' q
  · unfold putN at q
    by_cases hj : i = j
    · subst hj
      rw [List.getElem?_set_self hi] at q
      rw [List.getElem?_set_self hi']
      cases w with
      | true =>
        cases q
        obtain ⟨a, rfl, h1, h2, h3, h4, _⟩ := h
        exact ⟨a, rfl, h1, h2, h3, h4⟩
      | false => cases q
    · rw [List.getElem?_set_ne hj] at q ⊢
      exact s.ow j d' q
  · unfold putN at q1 q2
    by_cases hj : i = j
    · by_cases hk : i = k
      · exact hj.symm.trans hk
      · exfalso
        subst hj
        rw [List.getElem?_set_self hi] at q1
        rw [List.getElem?_set_ne hk] at q2 g2
        rw [List.getElem?_set_self hi'] at g1
        cases w with
        | true =>
          obtain ⟨a, rfl, _, _, _, _, n⟩ := h
          cases g1
          exact n k d2 q2 g2
        | false => cases q1
    · by_cases hk : i = k
      · exfalso
        subst hk
        rw [List.getElem?_set_self hi] at q2
        rw [List.getElem?_set_ne hj] at q1 g1
        rw [List.getElem?_set_self hi'] at g2
        cases w with
        | true =>
          obtain ⟨a, rfl, _, _, _, _, n⟩ := h
          cases g2
          exact n j d1 q1 g1
        | false => cases q2
      · rw [List.getElem?_set_ne hj] at q1 g1
        rw [List.getElem?_set_ne hk] at q2 g2
        exact s.sep j k d1 d2 b q1 q2 g1 g2
theorem VR.frz {K : PySem.W.Frag} {z : Zo} {v : V} {r : DB} (s : SR K z F io e st σ H) (h : VR K z H F io e σ v r) : ∃ F', Ext F io H F' io H ∧ SR K z F' io e st σ H ∧ Rep K H F' io v r.1 := by
  have po : PoE K z F io H e st σ r v H := ⟨F, io, .refl .., s, h⟩
  unfold VR at h
  split at h
  · obtain ⟨a, rfl, ho, n1, n2, n3, n4⟩ := h
    exact ⟨fzn F a, ext_fzn, s.freeze ho.there n2 n4 n3, ho.rep⟩
  · exact ⟨F, .refl .., s, h⟩
theorem PG.imp {tg : Expr} {t t' : TG} (h : PG X tg t) (i : ∀ v σ H Q, t' v σ H Q → t v σ H Q) : PG X tg t' := ⟨fun pins s σ H v u Q I r q => h.run pins s σ H v u Q I r (i _ _ _ _ q)⟩
theorem PGs.imp {tg : List Expr} {t t' : TGs} (h : PGs X tg t) (i : ∀ v σ H Q, t' v σ H Q → t v σ H Q) : PGs X tg t' := ⟨fun pins s σ H v u Q I r q => h.run pins s σ H v u Q I r (i _ _ _ _ q)⟩
theorem g_name {i : Nat} {x : Str} (hN : X.N.Nodup) (hi : X.N[i]? = some x) (hx : Loc X.env.scope x) (hf : X.fn x = true ∨ X.env.scope.names.lookup x = some .local) : PG X (.Name x pos) (gtv p (.nm i)) := by
  refine PG.imp (pg_name hN hi hx hf) fun v σ H Q ⟨F, io, e, st, r, s, hv, k⟩ => ?_
  rw [asg] at k
  split at k
  · rename_i hl
    exact k _ _ ⟨F, io, .refl .., s.put hv hl⟩
  · exact k.elim
structure GOK (X : Cx) (p : Px) (tg : Expr) (t : T) : Prop where
  pg : PG X tg (gtv p t)
  ns : ∀ es, assignEach (tg :: es) X.env = (false, assign tg X.env) :: assignEach es X.env
inductive GsOK (X : Cx) (p : Px) : Ts → List Expr → Prop
  | nil : GsOK X p .nil []
  | cons {t : T} {r : Ts} {ex : Expr} {l : List Expr} : GOK X p ex t → GsOK X p r l → GsOK X p (.cons t r) (ex :: l)
theorem GsOK.len {t : Ts} (h : GsOK X p t l) : (assignEach l X.env).length = tsLen t := by
  induction h with
  | nil => rfl
  | cons a _ ih => rw [a.ns, List.length_cons, ih]; rfl
theorem GsOK.star {t : Ts} (h : GsOK X p t l) : (assignEach l X.env).findIdx? (·.1) = none := by
  have : ∀ x ∈ assignEach l X.env, x.1 = false := by
    induction h with
    | nil => intro x hx; cases hx
    | cons a _ ih =>
      intro x hx
      rw [a.ns] at hx
      rcases List.mem_cons.mp hx with rfl | hx
      · rfl
      · exact ih x hx
  rw [List.findIdx?_eq_none_iff]
  intro x hx
  simpa using this x hx
theorem GsOK.pgs {t : Ts} (h : GsOK X p t l) : PGs X l (gtvs p t) := by
  induction h with
  | nil =>
    refine PGs.imp pgs_nil fun vs σ H Q ⟨F, io, e, st, ds, s, r, hl, k⟩ => ?_
    cases ds with
    | nil =>
      cases r
      exact ⟨rfl, k _ _ ⟨F, io, .refl .., s⟩⟩
    | cons _ _ => cases hl
  | @cons t r' ex l' a h' ih =>
    refine PGs.imp (pgs_cons a.pg ih (by rw [a.ns]; rfl)) fun vs σ H Q ⟨F, io, e, st, ds, s, r, hl, k⟩ => ?_
    cases ds with
    | nil => cases hl
    | cons d ds =>
      cases r with
      | @cons v vs d ds r1 r2 =>
        refine ⟨v, vs, rfl, F, io, e, st, (d, false), s, r1, ?_⟩
        rw [asgs] at k
        refine k.of_bind.mono (fun _ e' st' k σ' H' po => ?_) fun _ _ _ x => x
        obtain ⟨F', io', y, s'⟩ := po
        exact ⟨F', io', e', st', ds, s', r2.ext y, by simpa [tsLen] using hl, k.mono (fun _ _ _ q σ2 H2 po2 => q σ2 H2 (PoG.ext y po2)) fun _ _ _ x => XS.ext y x⟩
theorem g_tup {t : Ts} {k0 : Nat} (hK : X.K = p.K) (hc : X.calm = true) (h : GsOK X p t l) : PG X (.Tuple l k0 pos) (gtv p (.tp t)) := by
  refine PG.imp (pg_tup hc h.pgs h.len h.star) fun v σ H Q ⟨F, io, e, st, r, s, hv, k⟩ => ?_
  rw [asg] at k
  obtain ⟨d, w⟩ := r
  cases d <;> try exact k.elim
  rename_i xs
  have k : Res (if xs.length = tsLen t then asgs p.B p.G t xs e st else .no) _ _ := k
  split at k
  · rename_i hl
    obtain ⟨F1, y, s1, hr⟩ := hv.frz s
    cases hr with
    | @tup a vs ds hs hl' =>
      exact ⟨a, vs, rfl, hK ▸ hs, by rw [hl'.length]; exact hl, F1, io, e, st, xs, s1, hl', hl, k.mono (fun _ _ _ q σ2 H2 po2 => q σ2 H2 (PoG.ext y po2)) fun _ _ _ x => XS.ext y x⟩
  · exact k.elim
theorem set_ok {K : PySem.W.Frag} {x k v : D} {r x' : D} {a : Addr} {ws : List V} {xs : List D} {vk vv : V} (hf : ((setD (.lst xs) k v).map fun x' => (D.none, x')) = some (r, x')) (h2 : RepL K H F io ws xs) (hk : Rep K H F io vk k) (hv : Rep K H F io vv v) :
    ∃ j i, vk = .int i ∧ ixN ws.length i = some j ∧ x' = .lst (xs.set j v) ∧ RepL K H F io (ws.set j vv) (xs.set j v) := by
  unfold setD at hf
  simp only [Option.map_eq_some_iff] at hf
  obtain ⟨y, hy, e⟩ := hf
  cases e
  split at hy
  · rename_i xs' i e
    cases e
    simp only [Option.map_eq_some_iff] at hy
    obtain ⟨j, hj, rfl⟩ := hy
    cases hk
    exact ⟨j, i, rfl, by rw [h2.length]; exact hj, rfl, h2.set j hv⟩
  · contradiction
theorem EOK.sa {ex o : Expr} {c : E} (h : EOK X p ex c) (v : Value) : assign (.Subscript o ex pos) X.env v = (do
      let ov ← holding [v] (eval o X.env)
      let iv ← holding [v, ov] (eval ex X.env)
      standAt pos
      holding [v, ov, iv] (setItem ov iv v)
      release [v, ov, iv] []) := by
  have := h.nsl
  cases ex <;> first | rfl | exact absurd rfl (this _ _ _ _)
theorem g_sbv {n : Nat} {x : Str} {ci : E} {xp : Pos} (hN : X.N[n]? = some x) (hvis : Vis X.env.scope x) (hd : (x == ("__debug__" : Str)) = false) (hcd : (x == ("__classdict__" : Str)) = false) (hi : EOK X p b ci) : PG X (.Subscript (.Name x xp) b pos) (gtv p (.sbv n ci)) := by
  refine PG.imp (pg_sub (pe_var hN hvis hd hcd) hi.pe set_list hi.sa) fun v σ H Q ⟨F, io, e, st, r, s, hv, k⟩ => ?_
  rw [asg] at k
  split at k
  · rename_i hdf
    obtain ⟨vo, hσ⟩ := isDef_slot s hdf
    obtain ⟨F1, y, s1, hr⟩ := hv.frz s
    refine ⟨vo, hσ, F1, io, e, st, s1, k.of_bind.mono (fun kk e' st' k vk H' po => ?_) fun _ _ _ x => (XS.ext y x).xw⟩
    obtain ⟨F2, io2, y2, s2, hk⟩ := po.frz
    obtain ⟨a, ws, xs, r', x', rfl, g1, g2, hf, g4⟩ := chgS_po s2 hσ k.of_bind
    obtain ⟨j, i, rfl, g5, rfl, g6⟩ := set_ok (x := .none) (a := 0) hf g2 hk (hr.ext y2)
    obtain ⟨e2, st2, k, y3, s3⟩ := g4 _ _ g6 rfl
    exact ⟨a, ws, i, j, rfl, rfl, g1, g5, k _ _ ⟨F2, io2, (y.trans y2).trans y3, s3⟩⟩
  · exact k.elim
theorem g_sbo {co ci : E} (ho : EOK X p a co) (hi : EOK X p b ci) : PG X (.Subscript a b pos) (gtv p (.sbo co ci)) := by
  refine PG.imp (pg_sub ho.pe hi.pe set_list hi.sa) fun v σ H Q ⟨F, io, e, st, r, s, hv, k⟩ => ?_
  rw [asg] at k
  obtain ⟨F1, y, s1, hr⟩ := hv.frz s
  refine ⟨F1, io, e, st, s1, k.of_bind.mono (fun oo e' st' k vo H' po => ?_) fun _ _ _ x => (XS.ext y x).xw⟩
  obtain ⟨F2, io2, y2, s2, ho⟩ := po.frz
  refine ⟨F2, io2, e', st', s2, k.of_bind.mono (fun kk e2 st2 k vk H2 po => ?_) fun _ _ _ x => (XS.ext (y.trans y2) x).xw⟩
  obtain ⟨F3, io3, y3, s3, hk⟩ := po.frz
  obtain ⟨a, ws, xs, r', x', rfl, g1, g2, hf, g4⟩ := chgO_po s3 (ho.ext y3) k.of_bind
  obtain ⟨j, i, rfl, g5, rfl, g6⟩ := set_ok (x := .none) (a := 0) hf g2 hk ((hr.ext y2).ext y3)
  obtain ⟨e4, st4, k, y4, s4⟩ := g4 _ _ g6 rfl
  exact ⟨a, ws, i, j, rfl, rfl, g1, g5, k _ _ ⟨F3, io3, ((y.trans y2).trans y3).trans y4, s4⟩⟩
end

/-! ## what is walked -/
structure ItOK (K : PySem.W.Frag) (J : It) (F : Zn) (io : List Addr) (H : Hp) (items : List D) : Prop where
  go : ∀ (i : Nat) (d : D) (F1 : Zn) (io1 : List Addr) (H1 : Hp), Ext F io H F1 io1 H1 → (∀ a, F1 a → ∃ u, H1 a = some u) → items[i]? = some d → J.go i H1 ∧ ∀ x H2, J.yld i H1 x H2 → (H2 = H1 ∨ ∃ T xs, H1 T = none ∧ H2 = upd H1 T (.tup xs)) ∧ Rep K H2 F1 io1 x d
  stop : ∀ (F1 : Zn) (io1 : List Addr) (H1 : Hp), Ext F io H F1 io1 H1 → J.stop items.length H1
def tit (p : Px) (it : I) : TI := fun σ H R => ∃ F io e st, SR p.K p.z F io e st σ H ∧
  Res (its p.B p.G it e st) (fun items e' st' => ∀ J H', (∃ F' io', Ext F io H F' io' H' ∧ SR p.K p.z F' io' e' st' σ H' ∧ ItOK p.K J F' io' H' items) → R J H') (XW p F io H σ)
section
variable {p : Px} {X : Cx} {F F' : Zn} {io io' : List Addr} {H H' : Hp} {e : En} {st : Sto} {σ : L2.St} {a b tg : Expr} {l : List Expr} {pos : Pos} {c : E}
theorem PI.imp {iter : Expr} {t t' : TI} (h : PI X tg iter t) (i : ∀ σ H R, t' σ H R → t σ H R) : PI X tg iter t' := ⟨fun pins s σ H R I q => h.run pins s σ H R I (i _ _ _ q)⟩
theorem PI.or {iter : Expr} {t t' : TI} (h : PI X tg iter t) (h' : PI X tg iter t') : PI X tg iter (fun σ H R => t σ H R ∨ t' σ H R) := ⟨fun pins s σ H R I q => q.elim (h.run pins s σ H R I) (h'.run pins s σ H R I)⟩
theorem it_list {K : PySem.W.Frag} {a : Addr} {xs : List V} {ds : List D} (h : LsF K H F a xs) (r : RepL K H F io xs ds) : ItOK K (Itl K a) F io H ds where
  go := fun i d F1 io1 H1 y _ hd => by
    have h1 : SqL K H1 a xs := (h.ext y).sq
    obtain ⟨v, g1, g2⟩ := r.get hd
    refine ⟨⟨xs, v, h1, g1⟩, fun x H2 q => ?_⟩
    obtain ⟨rfl, q⟩ := q
    have := q xs h1
    rw [g1] at this
    cases this
    exact ⟨.inl rfl, g2.ext y⟩
  stop := fun F1 io1 H1 y => ⟨xs, (h.ext y).sq, by rw [r.length]; exact Nat.le_refl _⟩
theorem it_tup {K : PySem.W.Frag} {a : Addr} {xs : List V} {ds : List D} (h : SqT K H a xs) (r : RepL K H F io xs ds) : ItOK K (Itt K a) F io H ds where
  go := fun i d F1 io1 H1 y _ hd => by
    have h1 : SqT K H1 a xs := sqT_ext y h
    obtain ⟨v, g1, g2⟩ := r.get hd
    refine ⟨⟨xs, v, h1, g1⟩, fun x H2 q => ?_⟩
    obtain ⟨rfl, q⟩ := q
    have := q xs h1
    rw [g1] at this
    cases this
    exact ⟨.inl rfl, g2.ext y⟩
  stop := fun F1 io1 H1 y => ⟨xs, sqT_ext y h, by rw [r.length]; exact Nat.le_refl _⟩
theorem it_str {K : PySem.W.Frag} {z : Str} : ItOK K (Its z) F io H (z.cps.toList.map fun c => D.str ⟨#[c]⟩) where
  go := fun i d F1 io1 H1 y _ hd => by
    simp only [List.getElem?_map, Option.map_eq_some_iff] at hd
    obtain ⟨c, hc, rfl⟩ := hd
    have hc' : z.cps[i]? = some c := by rw [← Array.getElem?_toList]; exact hc
    have hlt : i < z.cps.size := (Array.getElem?_eq_some_iff.mp hc').1
    refine ⟨hlt, fun x H2 q => ?_⟩
    obtain ⟨rfl, c', q1, rfl⟩ := q
    rw [hc'] at q1
    cases q1
    exact ⟨.inl rfl, .str _⟩
  stop := fun F1 io1 H1 y => by simp [Its]
theorem it_rng {K : PySem.W.Frag} {lo hi : Int} : ItOK K (Itr lo (hi - lo).toNat) F io H (rangeL lo hi) where
  go := fun i d F1 io1 H1 y _ hd => by
    unfold rangeL at hd
    simp only [List.getElem?_map, Option.map_eq_some_iff] at hd
    obtain ⟨j, hj, rfl⟩ := hd
    have hlt := (List.getElem?_eq_some_iff.mp hj).1
    rw [List.getElem?_range (by simpa using hlt)] at hj
    cases hj
    refine ⟨by show i < (hi - lo).toNat; simpa using hlt, fun x H2 q => ?_⟩
    obtain ⟨rfl, rfl⟩ := q
    exact ⟨.inl rfl, .int _⟩
  stop := fun F1 io1 H1 y => by show (hi - lo).toNat ≤ _; rw [rangeL, List.length_map, List.length_range]; exact Nat.le_refl _
theorem it_rev {K : PySem.W.Frag} {a : Addr} {xs : List V} {ds : List D} (h : LsF K H F a xs) (r : RepL K H F io xs ds) : ItOK K (Itv K a xs.length) F io H ds.reverse where
  go := fun i d F1 io1 H1 y _ hd => by
    have h1 : SqL K H1 a xs := (h.ext y).sq
    have hlt : i < ds.length := by simpa using (List.getElem?_eq_some_iff.mp hd).1
    rw [List.getElem?_reverse hlt, ← r.length] at hd
    obtain ⟨v, g1, g2⟩ := r.get hd
    refine ⟨⟨by rw [r.length]; exact hlt, xs, v, h1, g1⟩, fun x H2 q => ?_⟩
    obtain ⟨rfl, q⟩ := q
    have := q xs h1
    rw [g1] at this
    cases this
    exact ⟨.inl rfl, g2.ext y⟩
  stop := fun F1 io1 H1 y => by simp [Itv, r.length]
theorem i_it (S : Sok p X) (h : EOK X p a c) : PI X tg a (tit p (.it c)) := by
  refine PI.imp (Pv.PI.or (pi_list h.pe) (Pv.PI.or (pi_tup h.pe) (pi_str h.pe))) fun σ H R ⟨F, io, e, st, s, k⟩ => ?_
  rw [its] at k
  cases hR : ev p.B p.G c e st with
  | no => rw [hR] at k; exact k.elim
  | ex x e' st' =>
    rw [hR] at k
    exact .inl ⟨F, io, e, st, s, by rw [hR]; exact k⟩
  | ok r e' st' =>
    rw [hR] at k
    obtain ⟨d, w⟩ := r
    have k : Res (match itemsD d with | some xs => Pv.R.ok xs e' st' | none => Pv.R.no) _ _ := k
    cases d <;> try exact k.elim
    · refine .inr (.inr ⟨F, io, e, st, s, ?_⟩)
      rw [hR]
      intro v H' po
      obtain ⟨F', io', y, s', q⟩ := po.frz
      cases q
      exact ⟨_, rfl, k _ _ ⟨F', io', y, s', it_str⟩⟩
    · refine .inr (.inl ⟨F, io, e, st, s, ?_⟩)
      rw [hR]
      intro v H' po
      obtain ⟨F', io', y, s', q⟩ := po.frz
      cases q with
      | @tup a xs ds h1 h2 => exact ⟨a, rfl, ⟨xs, S.K ▸ h1⟩, by rw [S.K]; exact k _ _ ⟨F', io', y, s', it_tup h1 h2⟩⟩
    · refine .inl ⟨F, io, e, st, s, ?_⟩
      rw [hR]
      intro v H' po
      obtain ⟨F', io', y, s', q⟩ := po.frz
      cases q with
      | @lst a xs ds h1 h2 => exact ⟨a, rfl, ⟨xs, S.K ▸ h1.sq⟩, by rw [S.K]; exact k _ _ ⟨F', io', y, s', it_list h1 h2⟩⟩
theorem small_of {i : Int} (h : small62 i = true) : -(2 ^ 62) ≤ i ∧ i < 2 ^ 62 := by
  unfold small62 at h; simpa using h
theorem i_rg1 {pp : Pos} (S : Sok p X) (hg : Gl X "range") (h : EOK X p a c) : PI X tg (.Call (.Name "range" pp) [a] [] pos) (tit p (.rg1 c)) := by
  refine PI.imp (pi_range1 hg (S.blt _ (by simp)) (pa_cons h.pe pa_nil (h.ns _)) (h.ns _)) fun σ H R ⟨F, io, e, st, s, k⟩ => ?_
  rw [its] at k
  refine ⟨F, io, e, st, s, k.of_bind.mono (fun r e' st' k v H' po => ?_) fun _ _ _ x => x⟩
  obtain ⟨d, w⟩ := r
  obtain ⟨F', io', y, s', q⟩ := po.frz
  cases d <;> try exact k.elim
  rename_i j
  have k : Res (if small62 j then Pv.R.ok (rangeL 0 j) e' st' else Pv.R.no) _ _ := k
  split at k
  · rename_i hs
    cases q
    refine ⟨j, rfl, (small_of hs).1, (small_of hs).2, k _ _ ⟨F', io', y, s', ?_⟩⟩
    have := it_rng (K := p.K) (F := F') (io := io') (H := H') (lo := 0) (hi := j)
    rw [Int.sub_zero] at this
    exact this
  · exact k.elim
theorem i_rg2 {pp : Pos} {c2 : E} (S : Sok p X) (hg : Gl X "range") (h : EOK X p a c) (h2 : EOK X p b c2) : PI X tg (.Call (.Name "range" pp) [a, b] [] pos) (tit p (.rg2 c c2)) := by
  refine PI.imp (pi_range2 hg (S.blt _ (by simp)) (pa_cons h.pe (pa_cons h2.pe pa_nil (h2.ns _)) (h.ns _)) (by rw [h.ns, h2.ns]; rfl) (h2.ns _)) fun σ H R ⟨F, io, e, st, s, k⟩ => ?_
  rw [its] at k
  refine ⟨F, io, e, st, s, k.of_bind.mono (fun r e' st' k v H' po => ?_) fun _ _ _ x => x⟩
  obtain ⟨F', io', y, s', q⟩ := po.frz
  refine ⟨F', io', e', st', s', k.of_bind.mono (fun r2 e2 st2 k v2 H2 po => ?_) fun _ _ _ x => XW.ext y x⟩
  obtain ⟨F2, io2, y2, s2, q2⟩ := po.frz
  obtain ⟨d, w⟩ := r
  obtain ⟨d2, w2⟩ := r2
  have fin : ∀ i j, d = .int i → d2 = .int j → Res (if small62 i && small62 j then Pv.R.ok (rangeL i j) e2 st2 else Pv.R.no) (fun items e' st' => ∀ (J : It) (H' : Hp), (∃ F' io', Ext F io H F' io' H' ∧ SR p.K p.z F' io' e' st' σ H' ∧ ItOK p.K J F' io' H' items) → R J H') (XW p F io H σ) →
      ∃ i j : Int, [v, v2] = [.int i, .int j] ∧ (-(2 ^ 62) ≤ i ∧ i < 2 ^ 62 ∧ -(2 ^ 62) ≤ j ∧ j < 2 ^ 62) ∧ R (Itr i (j - i).toNat) H2 := by
    intro i j e1 e2' kk
    subst e1
    subst e2'
    by_cases hs : (small62 i && small62 j) = true
    · rw [if_pos hs] at kk
      simp only [Bool.and_eq_true] at hs
      cases q; cases q2
      exact ⟨i, j, rfl, ⟨(small_of hs.1).1, (small_of hs.1).2, (small_of hs.2).1, (small_of hs.2).2⟩, kk _ _ ⟨F2, io2, y.trans y2, s2, it_rng⟩⟩
    · rw [if_neg hs] at kk
      exact kk.elim
  cases d with
  | int i => cases d2 with
    | int j => exact fin i j rfl rfl k
    | _ => exact k.elim
  | _ => cases d2 <;> exact k.elim
theorem i_rev {pp : Pos} (S : Sok p X) (hg : Gl X "reversed") (h : EOK X p a c) : PI X tg (.Call (.Name "reversed" pp) [a] [] pos) (tit p (.rev c)) := by
  refine PI.imp (pi_reversed hg (S.blt _ (by simp)) (pa_cons h.pe pa_nil (h.ns _)) (h.ns _)) fun σ H R ⟨F, io, e, st, s, k⟩ => ?_
  rw [its] at k
  refine ⟨F, io, e, st, s, k.of_bind.mono (fun r e' st' k v H' po => ?_) fun _ _ _ x => x⟩
  obtain ⟨d, w⟩ := r
  obtain ⟨F', io', y, s', q⟩ := po.frz
  cases d <;> try exact k.elim
  cases q with
  | @lst a xs ds h1 h2 => exact ⟨a, xs, rfl, S.K ▸ h1.sq, by rw [S.K]; exact k _ _ ⟨F', io', y, s', it_rev h1 h2⟩⟩
end
end Pv
namespace Pv
open PySem PySem.Spec PyProof.Rows L2
/-! ## statements -/
def PoO (p : Px) (F : Zn) (io : List Addr) (H : Hp) (D : Ends) : O → En → Sto → Prop := fun o e' st' => match o with
  | .nx => ∀ σ' H', PoG p.K p.z F io H e' st' σ' H' → D.nx σ' H'
  | .bk => ∀ σ' H', PoG p.K p.z F io H e' st' σ' H' → D.bk σ' H'
  | .ct => ∀ σ' H', PoG p.K p.z F io H e' st' σ' H' → D.ct σ' H'
  | .rt d w => ∀ v σ' H', PoE p.K p.z F io H e' st' σ' (d, w) v H' → D.rt v H'
def tst (p : Px) (c : S) : TS := fun D σ H => ∃ F io e st, SR p.K p.z F io e st σ H ∧ Res (xS p.B p.G c e st) (PoO p F io H D) (XS p F io H)
def tstL (p : Px) (c : Ss) : TS := fun D σ H => ∃ F io e st, SR p.K p.z F io e st σ H ∧ Res (xL p.B p.G c e st) (PoO p F io H D) (XS p F io H)
section
variable {p : Px} {X : Cx} {F F' : Zn} {io io' : List Addr} {H H' : Hp} {e : En} {st : Sto} {σ : L2.St} {a b tg : Expr} {l : List Expr} {pos : Pos} {c : E} {sx : Stmt} {D : Ends}
theorem PoO.ext {o : O} {e' : En} {st' : Sto} (y : Ext F io H F' io' H') (h : PoO p F io H D o e' st') : PoO p F' io' H' D o e' st' := by
  cases o with
  | nx => exact fun σ' H' po => h σ' H' (PoG.ext y po)
  | bk => exact fun σ' H' po => h σ' H' (PoG.ext y po)
  | ct => exact fun σ' H' po => h σ' H' (PoG.ext y po)
  | rt d w => exact fun v σ' H' po => h v σ' H' (PoE.ext y po)
theorem PS.imp {t t' : TS} (h : PS X sx t) (i : ∀ D σ H, t' D σ H → t D σ H) : PS X sx t' := ⟨fun pins s σ H D I q => h.run pins s σ H D I (i _ _ _ q)⟩
theorem PSs.imp {sx : List Stmt} {t t' : TS} (h : PSs X sx t) (i : ∀ D σ H, t' D σ H → t D σ H) : PSs X sx t' := ⟨fun pins s σ H D I q => h.run pins s σ H D I (i _ _ _ q)⟩
theorem PoE.poG {r : DB} {e' : En} {st' : Sto} {v : V} (h : PoE p.K p.z F io H e' st' σ r v H') : PoG p.K p.z F io H e' st' σ H' := let ⟨F', io', y, s, _⟩ := h; ⟨F', io', y, s⟩
/-- nothing that is more than a block, raises one's own -/
theorem XW.xs {x : Xc} {e' : En} {st' : Sto} (h : ∀ σ', XW p F io H σ' x e' st') : XS p F io H x e' st' := fun σ' cls d H2 po => h σ' cls d H2 po
theorem s_exp (h : EOK X p a c) (hs : swapsWith a none pos.line X.env = pure false) : PS X (.Expr a pos) (tst p (.exp c)) := by
  refine PS.imp (ps_expr h.pe hs) fun D σ H ⟨F, io, e, st, s, k⟩ => ?_
  rw [xS] at k
  exact ⟨F, io, e, st, s, k.of_bind.mono (fun r e' st' k v H' po => k _ _ po.poG) fun _ _ _ x => x.xw⟩
theorem s_set {t : T} (h : EOK X p a c) (ht : GOK X p tg t) (hs : swapsWith a (some tg) pos.line X.env = pure false) (hw : swappedStores [tg] a X.env = pure none) : PS X (.Assign [tg] a pos) (tst p (.set t c)) := by
  refine PS.imp (ps_asg h.pe ht.pg hs hw (by rw [ht.ns]; rfl)) fun D σ H ⟨F, io, e, st, s, k⟩ => ?_
  rw [xS] at k
  refine ⟨F, io, e, st, s, k.of_bind.mono (fun r e' st' k v H' po => ?_) fun _ _ _ x => x.xw⟩
  obtain ⟨F', io', y, s', hv⟩ := po
  exact ⟨F', io', e', st', r, s', hv, k.of_bind.mono (fun _ e2 st2 k σ2 H2 po => k _ _ (PoG.ext y po)) fun _ _ _ x => XS.ext y x⟩
theorem op_aug {op : Operator} : OpR X (inplaceOp op) (fun x y H Q => ∃ F io dx dy d, RO X.K H F io x dx ∧ RO X.K H F io y dy ∧ augD op dx dy = some d ∧ ∀ v, Rep X.K H F io v d → Q v H) := by
  cases op with
  | Add =>
    refine OpR.imp ((iop_add (X := X)).or iop_add_str) ?_
    rintro x y H Q ⟨F, io, dx, dy, r, hx, hy, e, q⟩
    cases dx <;> cases dy <;> simp only [augD] at e <;> try contradiction
    · cases e; exact .inl ⟨_, _, hx.int, hy.int, q _ (.int _)⟩
    · split at e
      · rename_i hl; cases e
        exact .inr ⟨_, _, hx.str, hy.str, by rw [← sizeMax_eq]; exact hl, q _ (.str _)⟩
      · contradiction
  | Sub =>
    refine OpR.imp (iop_sub (X := X)) ?_
    rintro x y H Q ⟨F, io, dx, dy, r, hx, hy, e, q⟩
    cases dx <;> cases dy <;> simp only [augD] at e <;> try contradiction
    cases e; exact ⟨_, _, hx.int, hy.int, q _ (.int _)⟩
  | _ =>
    intro pins s σ H x y v u Q I rx ry h
    obtain ⟨F, io, dx, dy, r, hx, hy, e, q⟩ := h
    cases dx <;> cases dy <;> simp [augD] at e
theorem ev_len {e' : En} {st' : Sto} (s : SR p.K p.z F io e st σ H) (s' : SR p.K p.z F' io' e' st' σ H') : e.length = e'.length := s.el.trans s'.el.symm
theorem s_aug {i : Nat} {x : Str} {op : Operator} {px : Pos} (S : Sok p X) (hi : X.N[i]? = some x) (hx : Loc X.env.scope x) (hf : X.fn x = true ∨ X.env.scope.names.lookup x = some .local) (h : EOK X p a c) :
    PS X (.AugAssign (.Name x px) op a pos) (tst p (.aug i op c)) := by
  refine PS.imp (ps_aug (ti := _) S.nd hi hx h.pe op_aug hf) fun D σ H ⟨F, io, e, st, s, k⟩ => ?_
  rw [xS] at k
  split at k
  · rename_i d hd
    obtain ⟨vx, g1, g2⟩ := s.fr i d hd
    refine ⟨vx, g1, F, io, e, st, s, k.of_bind.mono (fun r e' st' k v H' po => ?_) fun _ _ _ x => x.xw⟩
    obtain ⟨F', io', y, s', hv⟩ := po.frz
    split at k
    · rename_i r' hr
      refine ⟨F', io', d, r.1, r', S.K ▸ .inl (g2.ext y), S.K ▸ .inl hv, hr, fun w hw => ?_⟩
      have hl : i < e'.length := by rw [← ev_len s s']; exact (List.getElem?_eq_some_iff.mp hd).1
      exact k _ _ ⟨F', io', y, s'.put (r := (r', false)) (S.K ▸ hw) hl⟩
    · exact k.elim
  · exact k.elim
theorem s_ret (h : EOK X p a c) : PS X (.Return (some a) pos) (tst p (.ret c)) := by
  refine PS.imp (ps_ret h.pe) fun D σ H ⟨F, io, e, st, s, k⟩ => ?_
  rw [xS] at k
  exact ⟨F, io, e, st, s, k.of_bind.mono (fun r e' st' k v H' po => k v σ H' po) fun _ _ _ x => x.xw⟩
theorem s_retN : PS X (.Return none pos) (tst p .retN) := by
  refine PS.imp ps_retN fun D σ H ⟨F, io, e, st, s, k⟩ => ?_
  rw [xS] at k
  exact k .non σ H (NV.po s (.val .non))
theorem s_brk : PS X (.Break pos) (tst p .brk) := by
  refine PS.imp ps_break fun D σ H ⟨F, io, e, st, s, k⟩ => ?_
  rw [xS] at k
  exact k σ H ⟨F, io, .refl .., s⟩
theorem s_cnt : PS X (.Continue pos) (tst p .cnt) := by
  refine PS.imp ps_continue fun D σ H ⟨F, io, e, st, s, k⟩ => ?_
  rw [xS] at k
  exact k σ H ⟨F, io, .refl .., s⟩
theorem s_pas : PS X (.Pass pos) (tst p .pas) := by
  refine PS.imp ps_pass fun D σ H ⟨F, io, e, st, s, k⟩ => ?_
  rw [xS] at k
  exact k σ H ⟨F, io, .refl .., s⟩
theorem s_doc {x : Str} {j : Nat} {p1 p2 : Pos} : PS X (.Expr (.Constant (.str x) j p1) p2) (tst p .pas) := by
  refine PS.imp ps_doc fun D σ H ⟨F, io, e, st, s, k⟩ => ?_
  rw [xS] at k
  exact k σ H ⟨F, io, .refl .., s⟩
theorem s_nev : PS X sx (tst p .nev) := by
  refine PS.imp ps_never fun D σ H ⟨F, io, e, st, s, k⟩ => ?_
  rw [xS] at k
  exact k.elim
theorem ss_nil : PSs X [] (tstL p .nil) := by
  refine PSs.imp pss_nil fun D σ H ⟨F, io, e, st, s, k⟩ => ?_
  rw [xL] at k
  exact k σ H ⟨F, io, .refl .., s⟩
theorem ss_cons {r : List Stmt} {c : S} {cs : Ss} (h : PS X sx (tst p c)) (hr : PSs X r (tstL p cs)) : PSs X (sx :: r) (tstL p (.cons c cs)) := by
  refine PSs.imp (pss_cons h hr) fun D σ H ⟨F, io, e, st, s, k⟩ => ?_
  rw [xL] at k
  refine ⟨F, io, e, st, s, k.of_bind.mono (fun o e' st' k => ?_) fun _ _ _ x => x⟩
  cases o with
  | nx =>
    intro σ' H' po
    obtain ⟨F', io', y, s'⟩ := po
    exact ⟨F', io', e', st', s', Res.mono k (fun _ _ _ k => PoO.ext y k) fun _ _ _ x => XS.ext y x⟩
  | bk => exact k
  | ct => exact k
  | rt d w => exact k
theorem evB_tpt {P : Bool → En → Sto → Prop} {E : Xc → En → Sto → Prop} (k : Res (evB p.B p.G c e st) P E) : bRes (ev p.B p.G c e st) P E := by
  unfold evB at k
  refine k.of_bind.mono (fun r e' st' k => ?_) fun _ _ _ x => x
  obtain ⟨d, w⟩ := r
  cases d <;> try exact k.elim
  exact ⟨_, rfl, k⟩
theorem s_ifs {A B : List Stmt} {ca cb : Ss} (h : EOK X p a c) (hA : PSs X A (tstL p ca)) (hB : PSs X B (tstL p cb)) : PS X (.If a A B pos) (tst p (.ifs c ca cb)) := by
  refine PS.imp (ps_if h.pt hA hB) fun D σ H ⟨F, io, e, st, s, k⟩ => ?_
  rw [xS] at k
  refine ⟨F, io, e, st, s, Res.mono (evB_tpt k.of_bind) (fun r e' st' ⟨b, hb, k⟩ => ⟨b, hb, fun H' po => ?_⟩) fun _ _ _ x => x.xw⟩
  obtain ⟨F', io', y, s'⟩ := po
  cases b with
  | true => exact iteT ⟨F', io', e', st', s', Res.mono k (fun _ _ _ k => PoO.ext y k) fun _ _ _ x => XS.ext y x⟩
  | false => exact iteF ⟨F', io', e', st', s', Res.mono k (fun _ _ _ k => PoO.ext y k) fun _ _ _ x => XS.ext y x⟩
theorem s_whl {B : List Stmt} {cb : Ss} (hp : PassesOwn (model X.prog X.w) X.A X.env X.xe) (h : EOK X p a c) (hB : PSs X B (tstL p cb)) : PS X (.While a B [] pos) (tst p (.whl c cb)) := by
  refine PS.imp (ps_while hp h.pt hB) fun D σ H ⟨F, io, e, st, s, k⟩ => ?_
  rw [xS] at k
  refine ⟨fun m σ2 H2 => ∃ F2 io2 e2 st2, Ext F io H F2 io2 H2 ∧ SR p.K p.z F2 io2 e2 st2 σ2 H2 ∧ Res (whlL (fun e s => evB p.B p.G c e s) (fun e s => xL p.B p.G cb e s) m e2 st2) (PoO p F io H D) (XS p F io H),
    ⟨fuel, F, io, e, st, .refl .., s, k⟩, fun m σ2 H2 ⟨F2, io2, e2, st2, y, s2, k⟩ => ?_⟩
  cases m with
  | zero => rw [whlL] at k; exact k.elim
  | succ m =>
    rw [whlL] at k
    refine ⟨F2, io2, e2, st2, s2, Res.mono (evB_tpt k.of_bind) (fun r e' st' ⟨b, hb, k⟩ => ⟨b, hb, fun H' po => ?_⟩) fun _ _ _ x => (XS.ext y x).xw⟩
    obtain ⟨F3, io3, y3, s3⟩ := po
    cases b with
    | true =>
      refine iteT ⟨fun σ' H' => ∃ F2 io2 e2 st2, Ext F io H F2 io2 H' ∧ SR p.K p.z F2 io2 e2 st2 σ' H' ∧ Res (whlL (fun e s => evB p.B p.G c e s) (fun e s => xL p.B p.G cb e s) m e2 st2) (PoO p F io H D) (XS p F io H),
        fun σ' H' w => ⟨m, Nat.lt_succ_self m, w⟩, F3, io3, e', st', s3, ?_⟩
      have k : Res ((xL p.B p.G cb e' st').bind _) _ _ := k
      refine k.of_bind.mono (fun o e4 st4 k => ?_) fun _ _ _ x => XS.ext (y.trans y3) x
      cases o with
      | nx => exact fun σ' H' ⟨F4, io4, y4, s4⟩ => ⟨F4, io4, e4, st4, (y.trans y3).trans y4, s4, k⟩
      | ct => exact fun σ' H' ⟨F4, io4, y4, s4⟩ => ⟨F4, io4, e4, st4, (y.trans y3).trans y4, s4, k⟩
      | bk => exact fun σ' H' po => k σ' H' (PoG.ext (y.trans y3) po)
      | rt d w => exact fun v σ' H' po => k v σ' H' (PoE.ext (y.trans y3) po)
    | false => exact iteF (k σ2 H' ⟨F3, io3, y.trans y3, s3⟩)
theorem s_for {B : List Stmt} {cb : Ss} {it : I} {t : T} {iter : Expr} (hp : PassesOwn (model X.prog X.w) X.A X.env X.xe) (hc : X.calm = true) (hi : PI X tg iter (tit p it)) (ht : GOK X p tg t) (hB : PSs X B (tstL p cb))
    (hs : ∀ x, foldedSetIterable iter X.env x = pure x) : PS X (.For tg iter B [] pos) (tst p (.for_ t it cb)) := by
  refine PS.imp (ps_for hp hc hi ht.pg hB hs) fun D σ H ⟨F, io, e, st, s, k⟩ => ?_
  rw [xS] at k
  refine ⟨F, io, e, st, s, k.of_bind.mono (fun items e' st' k J H' ⟨F1, io1, y1, s1, J1⟩ => ?_) fun _ _ _ x => x.xw⟩
  refine ⟨fun i m σ2 H2 => m = items.length - i ∧ i ≤ items.length ∧ ∃ F2 io2 e2 st2, Ext F1 io1 H' F2 io2 H2 ∧ SR p.K p.z F2 io2 e2 st2 σ2 H2 ∧
      Res (forL (fun x e s => (asg p.B p.G t (x, false) e s).bind fun _ e s => xL p.B p.G cb e s) (items.drop i) e2 st2) (PoO p F io H D) (XS p F io H),
    ⟨items.length, by simp, Nat.zero_le _, F1, io1, e', st', .refl .., s1, by simpa using k⟩, fun i m σ2 H2 ⟨hm, hi, F2, io2, e2, st2, y, s2, k⟩ => ?_⟩
  by_cases hlt : i < items.length
  · have hd : items[i]? = some items[i] := List.getElem?_eq_getElem hlt
    rw [List.drop_eq_getElem_cons hlt, forL] at k
    obtain ⟨g, yl⟩ := J1.go i items[i] F2 io2 H2 y s2.cel.dom hd
    refine .inr ⟨g, fun σ' H3 => ∃ F2 io2 e2 st2, Ext F1 io1 H' F2 io2 H3 ∧ SR p.K p.z F2 io2 e2 st2 σ' H3 ∧
      Res (forL (fun x e s => (asg p.B p.G t (x, false) e s).bind fun _ e s => xL p.B p.G cb e s) (items.drop (i + 1)) e2 st2) (PoO p F io H D) (XS p F io H),
      fun σ' H3 w => ⟨items.length - (i + 1), by omega, rfl, hlt, w⟩, fun x H3 hy => ?_⟩
    obtain ⟨hH, hx⟩ := yl x H3 hy
    have s3 : SR p.K p.z F2 io2 e2 st2 σ2 H3 ∧ Ext F2 io2 H2 F2 io2 H3 := by
      rcases hH with rfl | ⟨T, xs, hT, rfl⟩
      · exact ⟨s2, .refl ..⟩
      · exact ⟨s2.newObj hT, ext_new hT s2.cel.dom⟩
    obtain ⟨s3, y3⟩ := s3
    have yy := y1.trans (y.trans y3)
    refine ⟨F2, io2, e2, st2, (items[i], false), s3, hx, ?_⟩
    have k := k.of_bind
    refine Res.mono (Res.of_bind k) (fun _ e4 st4 k σ4 H4 ⟨F4, io4, y4, s4⟩ => ?_) fun _ _ _ x => XS.ext yy x
    refine ⟨F4, io4, e4, st4, s4, Res.mono k (fun o e5 st5 k => ?_) fun _ _ _ x => XS.ext (yy.trans y4) x⟩
    cases o with
    | nx => exact fun σ' H' ⟨F5, io5, y5, s5⟩ => ⟨F5, io5, e5, st5, ((y.trans y3).trans y4).trans y5, s5, k⟩
    | ct => exact fun σ' H' ⟨F5, io5, y5, s5⟩ => ⟨F5, io5, e5, st5, ((y.trans y3).trans y4).trans y5, s5, k⟩
    | bk => exact fun σ' H' po => k σ' H' (PoG.ext (yy.trans y4) po)
    | rt d w => exact fun v σ' H' po => k v σ' H' (PoE.ext (yy.trans y4) po)
  · have e1 : i = items.length := by omega
    subst e1
    rw [List.drop_length, forL] at k
    exact .inl ⟨J1.stop F2 io2 H2 y, k σ2 H2 ⟨F2, io2, y1.trans y, s2⟩⟩
end
end Pv
namespace Pv
open PySem PySem.Spec PyProof.Rows L2
/-! ## does a core term stand for a text? -/
structure Ck where
  N : List Str
  sc : Scope
  asn : List Str
  dn : List Str
def visB (sc : Scope) (x : Str) : Bool := match sc.names.lookup x with
  | some .local => true
  | some .cell => true
  | some .free => true
  | _ => false
def glB (sc : Scope) (x : Str) : Bool := match sc.names.lookup x with
  | some .globalImplicit => true
  | _ => false
def okN (x : Str) : Bool := !(x == ("__debug__" : Str)) && !(x == ("__classdict__" : Str))
def varB (k : Ck) (i : Nat) (x : Str) : Bool := decide (k.N[i]? = some x) && visB k.sc x && okN x
def glbB (k : Ck) (x : Str) : Bool := glB k.sc x && okN x
def bltNames : List Str := ["len", "abs", "int", "list", "tuple", "max", "min", "isinstance"]
def plainX : Expr → Bool
  | .Starred _ _ => false
  | .Set _ _ _ => false
  | .Slice _ _ _ _ => false
  | .ListComp _ _ _ _ => false
  | .SetComp _ _ _ _ => false
  | .DictComp _ _ _ _ _ => false
  | .UnaryOp _ _ _ => false
  | .BoolOp _ _ _ => false
  | .IfExp _ _ _ _ => false
  | .Compare _ _ _ _ => false
  | _ => true
def baseB : Expr → Bool
  | .Call _ _ _ _ => false
  | _ => true
def lineB (a b : Pos) : Bool := a.endLine == b.line
mutual
def ckE (k : Ck) : E → Expr → Bool
  | .int i, e => match e with
    | .Constant (.int j) _ _ => decide (i = j)
    | _ => false
  | .str s, e => match e with
    | .Constant (.str t) _ _ => decide (s = t)
    | _ => false
  | .bl b, e => match e with
    | .Constant (.bool c) _ _ => decide (b = c)
    | _ => false
  | .non, e => match e with
    | .Constant .none _ _ => true
    | _ => false
  | .var i, e => match e with
    | .Name x _ => varB k i x
    | _ => false
  | .gl x, e => match e with
    | .Name y _ => decide (x = y) && glbB k y
    | _ => false
  | .bin op es, e => match e with
    | .BinOp a o b _ => decide (op = o) && ckEs k es [a, b]
    | _ => false
  | .neg c, e => match e with
    | .UnaryOp .USub a _ => ckE k c a
    | _ => false
  | .not c, e => match e with
    | .UnaryOp .Not a _ => ckE k c a
    | _ => false
  | .and es, e => match e with
    | .BoolOp .And l _ => !l.isEmpty && ckEs k es l
    | _ => false
  | .or es, e => match e with
    | .BoolOp .Or l _ => !l.isEmpty && ckEs k es l
    | _ => false
  | .ite c a b, e => match e with
    | .IfExp x y z _ => ckE k c x && ckE k a y && ckE k b z
    | _ => false
  | .cmp op es, e => match e with
    | .Compare a [o] [b] _ => decide (op = o) && ckEs k es [a, b]
    | _ => false
  | .chn o1 o2 es c, e => match e with
    | .Compare a [p1, p2] [b, d] _ => decide (o1 = p1) && decide (o2 = p2) && ckEs k es [a, b] && ckE k c d
    | _ => false
  | .tup es, e => match e with
    | .Tuple l _ _ => ckEs k es l
    | _ => false
  | .lst _ es, e => match e with
    | .List l _ => ckEs k es l
    | _ => false
  | .call _ f es, e => match e with
    | .Call (.Name g _) l [] _ => decide (f = g) && glbB k g && k.dn.contains g && ckEs k es l
    | _ => false
  | .blt f es, e => match e with
    | .Call (.Name g _) (a :: l) [] _ => decide (f = g) && glbB k g && bltNames.contains g && ckEs k es (a :: l)
    | _ => false
  | .mth _ _, _ => false
  | .chv m i es, e => match e with
    | .Call (.Attribute (.Name x _) n ap) l [] cp => decide (m = n) && isChg m && varB k i x && lineB ap cp && decide (l.length < 20) && ckEs k es l
    | _ => false
  | .cho m c es, e => match e with
    | .Call (.Attribute o n ap) l [] cp => decide (m = n) && isChg m && baseB o && lineB ap cp && decide (l.length < 20) && ckE k c o && ckEs k es l
    | _ => false
  | .sub es, e => match e with
    | .Subscript a b _ => ckEs k es [a, b]
    | _ => false
  | .slc n es, e => match e with
    | .Subscript a (.Slice lo hi none _) _ => match n, es, lo, hi with
      | 0, .cons c .nil, none, none => ckE k c a
      | 1, .cons c (.cons d .nil), some x, none => ckE k c a && ckE k d x
      | 2, .cons c (.cons d .nil), none, some x => ckE k c a && ckE k d x
      | _, _, _, _ => false
    | _ => false
  | .slb es c, e => match e with
    | .Subscript a (.Slice (some x) (some y) none _) _ => ckEs k es [a, x] && ckE k c y
    | _ => false
  | .comp _ _ _ _ _ _, _ => false
  | .nev, e => plainX e
def ckEs (k : Ck) : Es → List Expr → Bool
  | .nil, l => l.isEmpty
  | .cons c r, l => match l with
    | a :: l => ckE k c a && ckEs k r l
    | [] => false
end
def ckI (k : Ck) : I → Expr → Bool
  | .it c, e => ckE k c e
  | .rg1 c, e => match e with
    | .Call (.Name f _) [a] [] _ => decide (f = ("range" : Str)) && glbB k f && ckE k c a
    | _ => false
  | .rg2 c d, e => match e with
    | .Call (.Name f _) [a, b] [] _ => decide (f = ("range" : Str)) && glbB k f && ckE k c a && ckE k d b
    | _ => false
  | .rev c, e => match e with
    | .Call (.Name f _) [a] [] _ => decide (f = ("reversed" : Str)) && glbB k f && ckE k c a
    | _ => false
  | _, _ => false
mutual
def ckT (k : Ck) : T → Expr → Bool
  | .nm i, e => match e with
    | .Name x _ => decide (k.N[i]? = some x) && k.asn.contains x
    | _ => false
  | .tp ts, e => match e with
    | .Tuple l _ _ => ckTs k ts l
    | _ => false
  | .sbv n c, e => match e with
    | .Subscript (.Name x _) b _ => varB k n x && ckE k c b
    | _ => false
  | .sbo c d, e => match e with
    | .Subscript a b _ => ckE k c a && ckE k d b
    | _ => false
def ckTs (k : Ck) : Ts → List Expr → Bool
  | .nil, l => l.isEmpty
  | .cons t r, l => match l with
    | a :: l => ckT k t a && ckTs k r l
    | [] => false
end
/-- no comprehension, no display of a tuple -/
def noComp : Expr → Bool
  | .ListComp _ _ _ _ => false
  | .SetComp _ _ _ _ => false
  | .DictComp _ _ _ _ _ => false
  | _ => true
def noTup : Expr → Bool
  | .Tuple _ _ _ => false
  | .List _ _ => false
  | _ => true
mutual
def ckS (k : Ck) : S → Stmt → Bool
  | .exp c, s => match s with
    | .Expr a _ => ckE k c a && noComp a
    | _ => false
  | .set t c, s => match s with
    | .Assign [tg] a _ => ckT k t tg && ckE k c a && noComp a && (noTup tg || noTup a)
    | _ => false
  | .aug i op c, s => match s with
    | .AugAssign (.Name x _) o a _ => decide (op = o) && decide (k.N[i]? = some x) && k.asn.contains x && ckE k c a
    | _ => false
  | .ifs c a b, s => match s with
    | .If x y z _ => ckE k c x && ckSs k a y && ckSs k b z
    | _ => false
  | .whl c b, s => match s with
    | .While x y [] _ => ckE k c x && ckSs k b y
    | _ => false
  | .for_ t it b, s => match s with
    | .For tg iter y [] _ => ckT k t tg && ckI k it iter && ckSs k b y
    | _ => false
  | .ret c, s => match s with
    | .Return (some a) _ => ckE k c a
    | _ => false
  | .retN, s => match s with
    | .Return none _ => true
    | _ => false
  | .brk, s => match s with
    | .Break _ => true
    | _ => false
  | .cnt, s => match s with
    | .Continue _ => true
    | _ => false
  | .pas, s => match s with
    | .Pass _ => true
    | .Expr (.Constant (.str _) _ _) _ => true
    | _ => false
  | .nev, _ => true
def ckSs (k : Ck) : Ss → List Stmt → Bool
  | .nil, l => l.isEmpty
  | .cons c r, l => match l with
    | a :: l => ckS k c a && ckSs k r l
    | [] => false
end

structure Fit (X : Cx) (p : Px) (k : Ck) : Prop where
  N : X.N = k.N
  sc : X.env.scope = k.sc
  asn : ∀ x, k.asn.contains x = true → Loc X.env.scope x ∧ (X.fn x = true ∨ X.env.scope.names.lookup x = some .local)
  dn : ∀ x, k.dn.contains x = true → p.dn x = true
section
variable {p : Px} {X : Cx} {k : Ck}
theorem vis_of {sc : Scope} {x : Str} (h : visB sc x = true) : Vis sc x := by
  unfold visB at h
  split at h
  · exact .inl (by assumption)
  · exact .inr (.inl (by assumption))
  · exact .inr (.inr (by assumption))
  · cases h
theorem gl_of (f : Fit X p k) {x : Str} (h : glbB k x = true) : Gl X x ∧ (x == ("__debug__" : Str)) = false := by
  unfold glbB okN at h
  simp only [Bool.and_eq_true, Bool.not_eq_true'] at h
  refine ⟨?_, h.2.1⟩
  show X.env.scope.names.lookup x = _
  rw [f.sc]
  have h1 := h.1
  unfold glB at h1
  split at h1
  · assumption
  · cases h1
theorem var_of (f : Fit X p k) {x : Str} {i : Nat} (h : varB k i x = true) : X.N[i]? = some x ∧ Vis X.env.scope x ∧ (x == ("__debug__" : Str)) = false ∧ (x == ("__classdict__" : Str)) = false := by
  unfold varB okN at h
  simp only [Bool.and_eq_true, Bool.not_eq_true', decide_eq_true_eq] at h
  exact ⟨by rw [f.N]; exact h.1.1, by rw [f.sc]; exact vis_of h.1.2, h.2.1, h.2.2⟩
theorem EOK.common {ex : Expr} {c : E} (h : PE X ex (tev p c)) (hv : ∀ i, c ≠ .var i) (hx : plainX ex = true) : EOK X p ex c := by
  refine .mk1 h hv (fun whole => ?_) (fun es => ?_) (fun op => ?_) fun lo hi st q e => ?_
  · cases ex <;> first | rfl | cases hx
  · cases ex <;> first | rfl | cases hx
  · cases ex <;> first | (cases op <;> rfl) | cases hx
  · subst e; cases hx
/-- a form with a test of its own -/
theorem EOK.test {ex : Expr} {c : E} (h : PE X ex (tev p c)) (ht : PT X ex (tpt p c)) (hv : ∀ i, c ≠ .var i) (hx : ∀ es, starEach (ex :: es) X.env = (false, eval ex X.env) :: starEach es X.env) (hm : ∀ op, behindInMarks op ex = false) (hs : ∀ lo hi st q, ex ≠ .Slice lo hi st q) : EOK X p ex c :=
  ⟨h, by rw [tar_eq hv]; exact h, ht, hx, hm, hs⟩
theorem e_and' {l : List Expr} {a : Expr} {c : Es} {pos : Pos} (q : EsOK X p c (a :: l)) : PE X (.BoolOp .And (a :: l) pos) (tev p (.and c)) := by
  refine PE.imp (e_and q) fun σ H Q ⟨F, io, e, st, s, k⟩ => ⟨F, io, e, st, s, ?_⟩
  rw [if_pos rfl]; rw [ev] at k; exact k
theorem t_and' {l : List Expr} {a : Expr} {c : Es} {pos : Pos} (q : EsOK X p c (a :: l)) : PT X (.BoolOp .And (a :: l) pos) (tpt p (.and c)) := by
  refine PT.imp (t_and q).pt fun σ H Q ⟨F, io, e, st, s, k⟩ => ⟨F, io, e, st, s, ?_⟩
  rw [if_pos rfl]; rw [ev] at k; exact k
theorem e_or' {l : List Expr} {a : Expr} {c : Es} {pos : Pos} (q : EsOK X p c (a :: l)) : PE X (.BoolOp .Or (a :: l) pos) (tev p (.or c)) := by
  refine PE.imp (e_or q) fun σ H Q ⟨F, io, e, st, s, k⟩ => ⟨F, io, e, st, s, ?_⟩
  rw [if_neg (by decide)]; rw [ev] at k; exact k
theorem t_or' {l : List Expr} {a : Expr} {c : Es} {pos : Pos} (q : EsOK X p c (a :: l)) : PT X (.BoolOp .Or (a :: l) pos) (tpt p (.or c)) := by
  refine PT.imp (t_or q).pt fun σ H Q ⟨F, io, e, st, s, k⟩ => ⟨F, io, e, st, s, ?_⟩
  rw [if_neg (by decide)]; rw [ev] at k; exact k
mutual
theorem okE : ∀ (c : E) {X : Cx} {p : Px} {k : Ck} (S : Sok p X) (f : Fit X p k) {ex : Expr}, ckE k c ex = true → EOK X p ex c
  | .int i, X, p, k, S, f, ex, h => by
    unfold ckE at h; split at h <;> try cases h
    simp only [decide_eq_true_eq] at h; subst h
    exact .common (e_const pe_int (fun _ _ => by rw [ev]) fun _ _ _ _ => .int _) (by intro i; simp) rfl
  | .str s, X, p, k, S, f, ex, h => by
    unfold ckE at h; split at h <;> try cases h
    simp only [decide_eq_true_eq] at h; subst h
    exact .common (e_const pe_str (fun _ _ => by rw [ev]) fun _ _ _ _ => .str _) (by intro i; simp) rfl
  | .bl b, X, p, k, S, f, ex, h => by
    unfold ckE at h; split at h <;> try cases h
    simp only [decide_eq_true_eq] at h; subst h
    exact .common (e_const pe_bl (fun _ _ => by rw [ev]) fun _ _ _ _ => .bl _) (by intro i; simp) rfl
  | .non, X, p, k, S, f, ex, h => by
    unfold ckE at h; split at h <;> try cases h
    exact .common (e_const pe_non (fun _ _ => by rw [ev]) fun _ _ _ _ => .non) (by intro i; simp) rfl
  | .var i, X, p, k, S, f, ex, h => by
    unfold ckE at h; split at h <;> try cases h
    obtain ⟨h1, h2, h3, h4⟩ := var_of f h
    exact e_var h1 h2 h3 h4
  | .gl x, X, p, k, S, f, ex, h => by
    unfold ckE at h; split at h <;> try cases h
    simp only [Bool.and_eq_true, decide_eq_true_eq] at h
    obtain ⟨rfl, h⟩ := h
    obtain ⟨h1, h2⟩ := gl_of f h
    exact .common (e_gl S h1 h2) (by intro i; simp) rfl
  | .bin op es, X, p, k, S, f, ex, h => by
    unfold ckE at h; split at h <;> try cases h
    simp only [Bool.and_eq_true, decide_eq_true_eq] at h
    obtain ⟨rfl, h⟩ := h
    exact .common (pe_ebin S.K (okEs es S f h).pes) (by intro i; simp) rfl
  | .neg c, X, p, k, S, f, ex, h => by
    unfold ckE at h; split at h <;> try cases h
    exact .mk1 (e_neg (okE c S f h).pe) (by intro i; simp) (fun _ => rfl) (fun _ => rfl) (fun op => by cases op <;> rfl) (fun _ _ _ _ e => by cases e)
  | .not c, X, p, k, S, f, ex, h => by
    unfold ckE at h; split at h <;> try cases h
    have := okE c S f h
    exact .test (e_not this.pe) (t_not this.pt) (by intro i; simp) (fun _ => rfl) (fun op => by cases op <;> rfl) (fun _ _ _ _ e => by cases e)
  | .and es, X, p, k, S, f, ex, h => by
    unfold ckE at h; split at h <;> try cases h
    rename_i l pos
    simp only [Bool.and_eq_true] at h
    have q := okEs es S f h.2
    cases l with
    | nil => simp at h
    | cons a l => exact .test (e_and' q) (t_and' q) (by intro i; simp) (fun _ => rfl) (fun op => by cases op <;> rfl) (fun _ _ _ _ e => by cases e)
  | .or es, X, p, k, S, f, ex, h => by
    unfold ckE at h; split at h <;> try cases h
    rename_i l pos
    simp only [Bool.and_eq_true] at h
    have q := okEs es S f h.2
    cases l with
    | nil => simp at h
    | cons a l => exact .test (e_or' q) (t_or' q) (by intro i; simp) (fun _ => rfl) (fun op => by cases op <;> rfl) (fun _ _ _ _ e => by cases e)
  | .ite c a b, X, p, k, S, f, ex, h => by
    unfold ckE at h; split at h <;> try cases h
    simp only [Bool.and_eq_true] at h
    have h1 := okE c S f h.1.1
    have h2 := okE a S f h.1.2
    have h3 := okE b S f h.2
    exact .test (e_ite h1 h2 h3) (t_ite h1 h2 h3) (by intro i; simp) (fun _ => rfl) (fun op => by cases op <;> rfl) (fun _ _ _ _ e => by cases e)
  | .cmp op es, X, p, k, S, f, ex, h => by
    unfold ckE at h; split at h <;> try cases h
    simp only [Bool.and_eq_true, decide_eq_true_eq] at h
    obtain ⟨rfl, h⟩ := h
    have q := okEs es S f h
    exact .test (e_cmp S q) (t_cmp S q) (by intro i; simp) (fun _ => rfl) (fun op => by cases op <;> rfl) (fun _ _ _ _ e => by cases e)
  | .chn o1 o2 es c, X, p, k, S, f, ex, h => by
    unfold ckE at h; split at h <;> try cases h
    simp only [Bool.and_eq_true, decide_eq_true_eq] at h
    obtain ⟨⟨⟨rfl, rfl⟩, h⟩, h'⟩ := h
    have q := okEs es S f h
    have q' := okE c S f h'
    exact .test (e_chn S q q') (t_chn S q q') (by intro i; simp) (fun _ => rfl) (fun op => by cases op <;> rfl) (fun _ _ _ _ e => by cases e)
  | .tup es, X, p, k, S, f, ex, h => by
    unfold ckE at h; split at h <;> try cases h
    exact .common (e_tup (okEs es S f h)) (by intro i; simp) rfl
  | .lst l es, X, p, k, S, f, ex, h => by
    unfold ckE at h; split at h <;> try cases h
    exact .common (e_lst (okEs es S f h)) (by intro i; simp) rfl
  | .call pu g es, X, p, k, S, f, ex, h => by
    unfold ckE at h; split at h <;> try cases h
    simp only [Bool.and_eq_true, decide_eq_true_eq] at h
    obtain ⟨⟨⟨rfl, h1⟩, h2⟩, h3⟩ := h
    obtain ⟨g1, g2⟩ := gl_of f h1
    exact .common (e_call S (f.dn _ h2) g1 g2 (okEs es S f h3)) (by intro i; simp) rfl
  | .blt g es, X, p, k, S, f, ex, h => by
    unfold ckE at h; split at h <;> try cases h
    simp only [Bool.and_eq_true, decide_eq_true_eq] at h
    obtain ⟨⟨⟨rfl, h1⟩, h2⟩, h3⟩ := h
    obtain ⟨g1, g2⟩ := gl_of f h1
    exact .common (e_blt S g1 (by simpa [bltNames] using h2) (okEs es S f h3)) (by intro i; simp) rfl
  | .mth m es, X, p, k, S, f, ex, h => by cases h
  | .chv m i es, X, p, k, S, f, ex, h => by
    unfold ckE at h; split at h <;> try cases h
    simp only [Bool.and_eq_true, decide_eq_true_eq] at h
    obtain ⟨⟨⟨⟨⟨rfl, h1⟩, h2⟩, h3⟩, h4⟩, h5⟩ := h
    obtain ⟨g1, g2, g3, g4⟩ := var_of f h2
    exact .common (e_chv S h1 (okEs es S f h5) h4 g1 g2 g3 g4 h3) (by intro i; simp) rfl
  | .cho m c es, X, p, k, S, f, ex, h => by
    unfold ckE at h; split at h <;> try cases h
    rename_i o n ap l cp
    simp only [Bool.and_eq_true, decide_eq_true_eq] at h
    obtain ⟨⟨⟨⟨⟨⟨rfl, h1⟩, h2⟩, h3⟩, h4⟩, h5⟩, h6⟩ := h
    have hb : attributeBase o m X.env (eval o X.env) = eval o X.env := by
      cases o <;> first | rfl | cases h2
    exact .common (e_cho S h1 (okE c S f h5) (okEs es S f h6) h4 hb h3) (by intro i; simp) rfl
  | .sub es, X, p, k, S, f, ex, h => by
    unfold ckE at h; split at h <;> try cases h
    exact .common (e_sub S (okEs es S f h)) (by intro i; simp) rfl
  | .slc n es, X, p, k, S, f, ex, h => by
    unfold ckE at h; split at h <;> try cases h
    split at h <;> try cases h
    · rename_i c
      exact .common (e_slc0 S (okE c S f h)) (by intro i; simp) rfl
    · rename_i c d x
      simp only [Bool.and_eq_true] at h
      exact .common (e_slc1 S (okE c S f h.1) (okE d S f h.2)) (by intro i; simp) rfl
    · rename_i c d x
      simp only [Bool.and_eq_true] at h
      exact .common (e_slc2 S (okE c S f h.1) (okE d S f h.2)) (by intro i; simp) rfl
  | .slb es c, X, p, k, S, f, ex, h => by
    unfold ckE at h; split at h <;> try cases h
    simp only [Bool.and_eq_true] at h
    exact .common (e_slc3 S (okEs es S f h.1) (okE c S f h.2)) (by intro i; simp) rfl
  | .comp _ _ _ _ _ _, X, p, k, S, f, ex, h => by cases h
  | .nev, X, p, k, S, f, ex, h => by
    unfold ckE at h
    refine .common ⟨fun pins s σ H Q I ⟨F, io, e, st, _, q⟩ => ?_⟩ (by intro i; simp) h
    rw [ev] at q
    exact q.elim
theorem okEs : ∀ (c : Es) {X : Cx} {p : Px} {k : Ck} (S : Sok p X) (f : Fit X p k) {l : List Expr}, ckEs k c l = true → EsOK X p c l
  | .nil, X, p, k, S, f, l, h => by
    unfold ckEs at h
    cases l with
    | nil => exact .nil
    | cons _ _ => cases h
  | .cons c r, X, p, k, S, f, l, h => by
    unfold ckEs at h
    cases l with
    | nil => cases h
    | cons a l =>
      simp only [Bool.and_eq_true] at h
      exact .cons (okE c S f h.1) (okEs r S f h.2)
end
end
end Pv
namespace Pv
open PySem PySem.Spec PyProof.Rows L2
section
theorem noSet {k : Ck} {c : E} {ex : Expr} (h : ckE k c ex = true) {env : Env} : ∀ x, foldedSetIterable ex env x = pure x := by
  cases ex <;> try exact fun _ => rfl
  cases c <;> simp [ckE, plainX] at h
theorem okI {X : Cx} {p : Px} {k : Ck} (S : Sok p X) (f : Fit X p k) {tg : Expr} : ∀ (it : I) {ex : Expr}, ckI k it ex = true → PI X tg ex (tit p it) ∧ ∀ x, foldedSetIterable ex X.env x = pure x
  | .it c, ex, h => ⟨i_it S (okE c S f h), noSet (k := k) (c := c) h⟩
  | .rg1 c, ex, h => by
    simp only [ckI] at h; split at h <;> try cases h
    simp only [Bool.and_eq_true, decide_eq_true_eq] at h
    obtain ⟨⟨rfl, h1⟩, h2⟩ := h
    exact ⟨i_rg1 S (gl_of f h1).1 (okE c S f h2), fun _ => rfl⟩
  | .rg2 c d, ex, h => by
    simp only [ckI] at h; split at h <;> try cases h
    simp only [Bool.and_eq_true, decide_eq_true_eq] at h
    obtain ⟨⟨⟨rfl, h1⟩, h2⟩, h3⟩ := h
    exact ⟨i_rg2 S (gl_of f h1).1 (okE c S f h2) (okE d S f h3), fun _ => rfl⟩
  | .rev c, ex, h => by
    simp only [ckI] at h; split at h <;> try cases h
    simp only [Bool.and_eq_true, decide_eq_true_eq] at h
    obtain ⟨⟨rfl, h1⟩, h2⟩ := h
    exact ⟨i_rev S (gl_of f h1).1 (okE c S f h2), fun _ => rfl⟩
  | .zip .., _, h => by simp [ckI] at h
  | .enu .., _, h => by simp [ckI] at h
mutual
theorem okT {X : Cx} {p : Px} {k : Ck} (S : Sok p X) (f : Fit X p k) : ∀ (t : T) {ex : Expr}, ckT k t ex = true → GOK X p ex t
  | .nm i, ex, h => by
    unfold ckT at h; split at h <;> try cases h
    simp only [Bool.and_eq_true, decide_eq_true_eq] at h
    obtain ⟨h1, h2⟩ := f.asn _ h.2
    exact ⟨g_name S.nd (by rw [f.N]; exact h.1) h1 h2, fun _ => rfl⟩
  | .tp ts, ex, h => by
    unfold ckT at h; split at h <;> try cases h
    exact ⟨g_tup S.K S.calm (okTs S f ts h), fun _ => rfl⟩
  | .sbv n c, ex, h => by
    unfold ckT at h; split at h <;> try cases h
    simp only [Bool.and_eq_true] at h
    obtain ⟨h1, h2, h3, h4⟩ := var_of f h.1
    exact ⟨g_sbv h1 h2 h3 h4 (okE c S f h.2), fun _ => rfl⟩
  | .sbo c d, ex, h => by
    unfold ckT at h; split at h <;> try cases h
    simp only [Bool.and_eq_true] at h
    exact ⟨g_sbo (okE c S f h.1) (okE d S f h.2), fun _ => rfl⟩
theorem okTs {X : Cx} {p : Px} {k : Ck} (S : Sok p X) (f : Fit X p k) : ∀ (t : Ts) {l : List Expr}, ckTs k t l = true → GsOK X p t l
  | .nil, l, h => by
    unfold ckTs at h
    cases l with
    | nil => exact .nil
    | cons _ _ => cases h
  | .cons t r, l, h => by
    unfold ckTs at h
    cases l with
    | nil => cases h
    | cons a l =>
      simp only [Bool.and_eq_true] at h
      exact .cons (okT S f t h.1) (okTs S f r h.2)
end
theorem noC {a : Expr} (h : noComp a = true) {t : Option Expr} {n : Nat} {env : Env} : swapsWith a t n env = pure false := by
  cases a <;> first | rfl | cases h
theorem noT {a b : Expr} (h : (noTup a || noTup b) = true) {env : Env} : swappedStores [a] b env = pure none := by
  cases a <;> try rfl
  all_goals cases b <;> first | rfl | cases h
mutual
theorem okS {X : Cx} {p : Px} {k : Ck} (S : Sok p X) (f : Fit X p k) (po : PassesOwn (model X.prog X.w) X.A X.env X.xe) : ∀ (c : Pv.S) {sx : Stmt}, ckS k c sx = true → PS X sx (tst p c)
  | .exp c, sx, h => by
    unfold ckS at h; split at h <;> try cases h
    simp only [Bool.and_eq_true] at h
    exact s_exp (okE c S f h.1) (noC h.2)
  | .set t c, sx, h => by
    unfold ckS at h; split at h <;> try cases h
    simp only [Bool.and_eq_true] at h
    exact s_set (okE c S f h.1.1.2) (okT S f t h.1.1.1) (noC h.1.2) (noT h.2)
  | .aug i op c, sx, h => by
    unfold ckS at h; split at h <;> try cases h
    simp only [Bool.and_eq_true, decide_eq_true_eq] at h
    obtain ⟨⟨⟨rfl, h1⟩, h2⟩, h3⟩ := h
    obtain ⟨g1, g2⟩ := f.asn _ h2
    exact s_aug S (by rw [f.N]; exact h1) g1 g2 (okE c S f h3)
  | .ifs c a b, sx, h => by
    unfold ckS at h; split at h <;> try cases h
    simp only [Bool.and_eq_true] at h
    exact s_ifs (okE c S f h.1.1) (okSs S f po a h.1.2) (okSs S f po b h.2)
  | .whl c b, sx, h => by
    unfold ckS at h; split at h <;> try cases h
    simp only [Bool.and_eq_true] at h
    exact s_whl po (okE c S f h.1) (okSs S f po b h.2)
  | .for_ t it b, sx, h => by
    unfold ckS at h; split at h <;> try cases h
    simp only [Bool.and_eq_true] at h
    exact s_for po S.calm (okI S f it h.1.2).1 (okT S f t h.1.1) (okSs S f po b h.2) (okI S f (tg := .Constant .none 0 default) it h.1.2).2
  | .ret c, sx, h => by
    unfold ckS at h; split at h <;> try cases h
    exact s_ret (okE c S f h)
  | .retN, sx, h => by
    unfold ckS at h; split at h <;> try cases h
    exact s_retN
  | .brk, sx, h => by
    unfold ckS at h; split at h <;> try cases h
    exact s_brk
  | .cnt, sx, h => by
    unfold ckS at h; split at h <;> try cases h
    exact s_cnt
  | .pas, sx, h => by
    unfold ckS at h; split at h <;> try cases h
    · exact s_pas
    · exact s_doc
  | .nev, sx, h => s_nev
theorem okSs {X : Cx} {p : Px} {k : Ck} (S : Sok p X) (f : Fit X p k) (po : PassesOwn (model X.prog X.w) X.A X.env X.xe) : ∀ (c : Pv.Ss) {l : List Stmt}, ckSs k c l = true → PSs X l (tstL p c)
  | .nil, l, h => by
    unfold ckSs at h
    cases l with
    | nil => exact ss_nil
    | cons _ _ => cases h
  | .cons c r, l, h => by
    unfold ckSs at h
    cases l with
    | nil => cases h
    | cons a l =>
      simp only [Bool.and_eq_true] at h
      exact ss_cons (okS S f po c h.1) (okSs S f po r h.2)
end
end
end Pv
namespace Pv
open PySem PySem.Spec PyProof.Rows L2
def locB (sc : Scope) (x : Str) : Bool := match sc.names.lookup x with
  | some .local => true
  | some .cell => true
  | _ => false
theorem loc_of {sc : Scope} {x : Str} (h : locB sc x = true) : Loc sc x := by
  unfold locB at h
  split at h
  · exact .inl (by assumption)
  · exact .inr (by assumption)
  · cases h
def ckOf (N dn : List Str) (sc : Scope) : Ck := ⟨N, sc, N.filter (locB sc), dn⟩
section
variable {K : PySem.W.Frag} {mg : Str → Option Value} {F F' : Zn} {io io' : List Addr} {H H' : Hp} {e : En} {st st' : Sto} {σ : L2.St}
theorem SR.entry {vs : List V} {ds : List D} {N : List Str} {n : Nat} (c : Cel K F io st H) (r : RepL K H F io vs ds) (hn : n = N.length) (hl : ds.length ≤ n) : SR K ⟨H, io, F⟩ F io (ds.map Sl.fr ++ List.replicate (n - ds.length) Sl.un) st (L2.start N vs) H := by
  have hlen := r.length
  have noow : ∀ (i : Nat) (d : D), (ds.map Sl.fr ++ List.replicate (n - ds.length) Sl.un)[i]? ≠ some (.ow d) := fun i d q => by
    by_cases hi : i < ds.length
    · rw [List.getElem?_append_left (by simpa using hi), List.getElem?_map] at q
      cases e : ds[i]? with
      | none => rw [e] at q; cases q
      | some x => rw [e] at q; cases q
    · rw [List.getElem?_append_right (by simpa using hi), List.getElem?_replicate] at q
      split at q <;> cases q
  refine ⟨c, ?_, fun i d q => ?_, fun i d q => absurd q (noow i d), fun i j d d' a q => absurd q (noow i d), fun a u q _ => q, ⟨[], by simp, fun a h => by simp at h⟩, fun a h => .inl h⟩
  · unfold L2.start
    simp [hlen, hn]
  · by_cases hi : i < ds.length
    · rw [List.getElem?_append_left (by simpa using hi), List.getElem?_map] at q
      cases e : ds[i]? with
      | none => rw [e] at q; cases q
      | some x =>
        rw [e] at q; cases q
        obtain ⟨v, g1, g2⟩ := r.get e
        refine ⟨v, ?_, g2⟩
        unfold L2.start
        rw [List.getElem?_append_left (by simpa [hlen] using hi), List.getElem?_map, g1]
        rfl
    · rw [List.getElem?_append_right (by simpa using hi), List.getElem?_replicate] at q
      split at q <;> cases q
theorem SR.extC {z : Zo} (s : SR K z F io e st σ H) (ff : ∀ a, z.F0 a → F a) : ExtC z.F0 z.i0 z.H0 F io H := ⟨ff, s.frm, s.pre, s.fnw⟩
theorem PoE.poC {r : DB} {v : V} (h : PoE K ⟨H, io, F⟩ F io H e st' σ r v H') : PoC K F io H st' r v H' := by
  obtain ⟨F1, io1, x, s, q⟩ := h
  refine ⟨F1, io1, s.extC x.ff, s.cel, ?_⟩
  unfold VR at q
  split at q
  · rename_i hw
    rw [if_pos hw]
    obtain ⟨a, rfl, ho, n1, n2, n3, n4⟩ := q
    exact ⟨a, rfl, ho, n1, n2, n3⟩
  · rename_i hw
    rw [if_neg hw]
    exact q
end
/-- a def's body keeps the promise of its core -/
theorem def_ok {P : Program} {w : World} {K : PySem.W.Frag} {mg : Str → Option Value} {base : Heap} {x qual : Str} {sx : Stmt} {f : Addr} {fd : FuncData} {N ps : List Str} {k : Nat} {d : Df} {B : Tab} {G : Glb} {dn : Str → Bool} {dnl : List Str}
    (Fn : Fun K x qual sx f fd) (S : FnScope N ps (defScope sx)) (hnp : d.np = ps.length) (hns : d.ns = N.length)
    (ck : ckSs (ckOf N dnl (defScope sx)) d.body (defBody sx) = true)
    (hdn : ∀ f, dnl.contains f = true → dn f = true)
    (htab : ∀ f, dn f = true → ∃ a fd ps, mg f = some (.ref a) ∧ FnOk P w K mg base (L2.CX P w) k a fd ps (spT K mg (B f)) ∧ PySem.W.keepIn K (.ref a) = true ∧ Binds K fd ps [])
    (hglb : ∀ x d, G x = some d → (∃ u v, mg x = some u ∧ RelV v u ∧ ∀ H F io, Rep K H F io v d) ∨ (mg x = none ∧ x ≠ "__name__" ∧ ∃ u v, bootBuiltins x = some u ∧ RelV v u ∧ ∀ H F io, Rep K H F io v d))
    (hblt : ∀ x ∈ (["len", "abs", "int", "list", "tuple", "max", "min", "isinstance", "range", "reversed", "zip", "enumerate"] : List Str), mg x = none) :
    FnOk P w K mg base (L2.CX P w) (k + 1) f fd ps (spT K mg (runD B G d)) := by
  refine Fun.okX Fn S (fun vs H Q E h => ?_) fun cdv A outer s H vs Q E hr hsp => ?_
  · obtain ⟨F, io, ds, st, _, r, m⟩ := h
    unfold runD at m
    split at m <;> rename_i q
    · split at q
      · rename_i hl; rw [r.length, hl.1, hnp]
      · cases q
    · split at q
      · rename_i hl; rw [r.length, hl.1, hnp]
      · cases q
    · exact m.elim
  · obtain ⟨F, io, ds, st, c, r, m⟩ := hsp
    have po : PassesOwn (model P w) (A.deeper (envOfC qual (defScope sx) s.heap.objs.size f cdv)) (envOfC qual (defScope sx) s.heap.objs.size f cdv) (cxOf (L2.CX P w) P w K mg base N qual (defScope sx) f cdv A outer s H E).xe := passes_of (X := cxOf (L2.CX P w) P w K mg base N qual (defScope sx) f cdv A outer s H E) rfl
    have So : Sok ⟨K, mg, B, G, ⟨H, io, F⟩, fun cls d _ H' => E cls d H', dn⟩ (cxOf (L2.CX P w) P w K mg base N qual (defScope sx) f cdv A outer s H E) :=
      { K := rfl, mg := rfl, calm := rfl, nd := S.nd, hu := by have := hr.un; show (A.deeper (envOfC qual (defScope sx) s.heap.objs.size f cdv)).units + 65 < _; omega, tk := takes_of rfl rfl rfl rfl,
        tab := fun g hg => by
          obtain ⟨a, fd, ps, h1, h2, h3, h4⟩ := htab g hg
          exact ⟨a, fd, ps, k, h1, h2, hr, h3, h4⟩
        glb := hglb, blt := hblt }
    have Ft : Fit (cxOf (L2.CX P w) P w K mg base N qual (defScope sx) f cdv A outer s H E) ⟨K, mg, B, G, ⟨H, io, F⟩, fun cls d _ H' => E cls d H', dn⟩ (ckOf N dnl (defScope sx)) :=
      ⟨rfl, rfl, fun x hx => ⟨loc_of (by
        have hx : x ∈ N.filter (locB (defScope sx)) := List.contains_iff_mem.mp hx
        exact (List.mem_filter.mp hx).2), .inl rfl⟩, hdn⟩
    refine ⟨tstL ⟨K, mg, B, G, ⟨H, io, F⟩, fun cls d _ H' => E cls d H', dn⟩ d.body, okSs So Ft po d.body ck, ?_⟩
    unfold runD at m
    split at m <;> rename_i q <;> split at q <;> try cases q
    · rename_i hl
      refine ⟨F, io, _, st, SR.entry (N := N) (n := d.ns) c r hns (hl.1 ▸ hl.2), ?_⟩
      rw [hl.1]
      split at q <;> try cases q
      · rename_i hx
        rw [hx]
        exact fun σ' H' ⟨F', io', y, s'⟩ => m .non H' (PoE.poC ⟨F', io', y, s', .non⟩)
      · rename_i hx
        rw [hx]
        exact fun v σ' H' po => m v H' po.poC
    · rename_i hl
      refine ⟨F, io, _, st, SR.entry (N := N) (n := d.ns) c r hns (hl.1 ▸ hl.2), ?_⟩
      rw [hl.1]
      split at q <;> try cases q
      rename_i hx
      rw [hx]
      exact fun σ' cls dd H' ⟨F', io', y, s', z⟩ => m cls dd H' ⟨F', io', s'.extC y.ff, s'.cel, z⟩
    · exact m.elim
    · exact m.elim
/-- what is shown of every def -/
structure DefK (K : PySem.W.Frag) (mg : Str → Option Value) (dnl : List Str) (f : Str) (d : Df) : Prop where
  ex : ∃ (a : Addr) (qual : Str) (sx : Stmt) (fd : FuncData) (N ps : List Str), mg f = some (.ref a) ∧ Fun K f qual sx a fd ∧ FnScope N ps (defScope sx) ∧ d.np = ps.length ∧ d.ns = N.length ∧
    ckSs (ckOf N dnl (defScope sx)) d.body (defBody sx) = true ∧ Binds K fd ps []
theorem tab_ok {P : Program} {w : World} {K : PySem.W.Frag} {mg : Str → Option Value} {base : Heap} {tb : List (Str × Df)} {G : Glb}
    (hd : ∀ p ∈ tb, DefK K mg (tb.map (·.1)) p.1 p.2)
    (hglb : ∀ x d, G x = some d → (∃ u v, mg x = some u ∧ RelV v u ∧ ∀ H F io, Rep K H F io v d) ∨ (mg x = none ∧ x ≠ "__name__" ∧ ∃ u v, bootBuiltins x = some u ∧ RelV v u ∧ ∀ H F io, Rep K H F io v d))
    (hblt : ∀ x ∈ (["len", "abs", "int", "list", "tuple", "max", "min", "isinstance", "range", "reversed", "zip", "enumerate"] : List Str), mg x = none) :
    ∀ (k : Nat) (f : Str), (tb.lookup f).isSome = true → ∃ a fd ps, mg f = some (.ref a) ∧ FnOk P w K mg base (L2.CX P w) k a fd ps (spT K mg (tab (fun f => tb.lookup f) G k f)) ∧ PySem.W.keepIn K (.ref a) = true ∧ Binds K fd ps []
  | 0, f, h => by
    obtain ⟨d, hd'⟩ := Option.isSome_iff_exists.mp h
    obtain ⟨a, qual, sx, fd, N, ps, h1, h2, h3, h4, h5, h6, h7⟩ := (hd _ (PySem.mem_of_lookup hd')).ex
    have no : ∀ vs H Q E, ¬ spT K mg (tab (fun f => tb.lookup f) G 0 f) vs H Q E := fun vs H Q E ⟨_, _, _, _, _, _, m⟩ => m
    exact ⟨a, fd, ps, h1, ⟨fun vs H Q E q => (no _ _ _ _ q).elim, fun A outer s H args us vs Q E _ _ _ _ q => (no _ _ _ _ q).elim⟩, h2.kp, h7⟩
  | k + 1, f, h => by
    obtain ⟨d, hd'⟩ := Option.isSome_iff_exists.mp h
    obtain ⟨a, qual, sx, fd, N, ps, h1, h2, h3, h4, h5, h6, h7⟩ := (hd _ (PySem.mem_of_lookup hd')).ex
    refine ⟨a, fd, ps, h1, ?_, h2.kp, h7⟩
    have e : tab (fun f => tb.lookup f) G (k + 1) f = runD (tab (fun f => tb.lookup f) G k) G d := by
      funext ds s
      show (match tb.lookup f with | some d => runD (tab (fun f => tb.lookup f) G k) G d ds s | none => none) = _
      rw [hd']
    rw [e]
    exact def_ok (dn := fun g => (tb.lookup g).isSome) h2 h3 h4 h5 h6 (fun g hg => by
      have hg : g ∈ tb.map (·.1) := List.contains_iff_mem.mp hg
      cases hq : tb.lookup g with
      | some _ => rfl
      | none =>
        rw [List.mem_map] at hg
        obtain ⟨p, hp, rfl⟩ := hg
        rw [List.lookup_eq_none_iff] at hq
        have := hq p hp
        simp at this) (fun g hg => tab_ok hd hglb hblt k g hg) hglb hblt
end Pv
namespace Pv
open PySem PySem.Spec PyProof.Rows L2
theorem rep_ints {K : PySem.W.Frag} {H : Hp} {F : Zn} {io : List Addr} : ∀ ns : List Int, RepL K H F io (ns.map V.int) (ns.map D.int)
  | [] => .nil
  | n :: r => .cons (.int n) (rep_ints r)
/-- the law's promise -/
def spLaw (K : PySem.W.Frag) (n : Nat) : Sp := fun vs H Q _ => ∃ (a : Addr) (ns : List Int), vs = [.ref a] ∧ SqL K H a (ns.map V.int) ∧ ns.length ≤ n ∧ ∀ H', Q (.bl true) H'
def Plain (t : List D → Sto → Option (Rv × Sto)) (n : Nat) : Prop := ∀ ns : List Int, ns.length ≤ n → ∃ st', t [.lst (ns.map D.int)] [] = some (.rt (.bool true) false, st')
theorem law_sp {K : PySem.W.Frag} {mg : Str → Option Value} {n : Nat} {t : List D → Sto → Option (Rv × Sto)} (hp : Plain t n) : ∀ vs H Q E, spLaw K n vs H Q E → spT K mg t vs H Q E := by
  rintro vs H Q E ⟨a, ns, rfl, hS, hl, k⟩
  obtain ⟨st', e⟩ := hp ns hl
  refine ⟨fun b => ∃ u, H b = some u, [], _, [], ⟨fun b hb => hb, rfl, List.nodup_nil, fun b hb => by simp at hb, fun m b d h1 => by simp at h1⟩, .cons (.lst ?_ (rep_ints ns)) .nil, ?_⟩
  · rcases hS with h | h
    · refine .inl ⟨?_, h⟩
      rcases h with h | ⟨o, h⟩
      · exact ⟨_, h⟩
      · exact ⟨_, h⟩
    · exact .inr h
  · rw [e]
    rintro v H' ⟨F', io', _, _, q⟩
    have q : Rep K H' F' io' v (.bool true) := q
    cases q
    exact k H'
theorem cx_none {P : Program} {w : World} {H : Hp} {s : Shared} {e : Value} {s' : Shared} (h : L2.CX P w [] H s (fun _ _ _ => False) e s') : False := by
  obtain ⟨_, _, _, _, _, _, _, _, _, _, _, _, z⟩ := h
  exact z.elim
theorem dk {dnl : List Str} {K : PySem.W.Frag} {h : Heap} {mg : Str → Option Value} (X : K.In h) (G : h.Ns mainGlobals mg) {x qual : Str} {sx : Stmt} {f : Addr} {oc : Value} {od an : Option Addr} {osl : Array (Option Value)} {kV dc pm cd ct : Value} {N ps : List Str} {d : Df}
    (a : PySem.W.nsIn K mainGlobals x = some (some (.ref f))) (l : K.lookup f = some ⟨oc, od, .func (PySem.W.fnOf x qual (defArgs sx) (defBody sx) (defScope sx) .none kV dc pm an cd ct), osl⟩)
    (c : PySem.W.codeIn K cd qual = true) (k : PySem.W.keepIn K (.ref f) = true) (S : FnScope N ps (defScope sx)) (hnp : d.np = ps.length) (hns : d.ns = N.length) (ck : ckSs (ckOf N dnl (defScope sx)) d.body (defBody sx) = true)
    (hb : ∀ (kV doc pm : Value) (an : Option Addr) (cdv ct : Value) (us : List Value), us.length = ps.length → bindArgs (PySem.W.fnOf x qual (defArgs sx) (defBody sx) (defScope sx) .none kV doc pm an cdv ct) ⟨us, []⟩ = pure (ps.zip us)) : DefK K mg dnl x d :=
  have F := fun_mk (st := sx) l c k
  ⟨f, qual, sx, _, N, ps, PySem.W.mg_of X G a, F, S, hnp, hns, ck, F.binds hb⟩
/-- the whole, from the facts about the text -/
theorem law_all {P : Program} {K : PySem.W.Frag} {h : Heap} {mg : Str → Option Value} {fa f : Addr} {w : World} {tb : List (Str × Df)} {G : Glb} {n k : Nat} {x : Str} {sx : Stmt} {oc : Value} {od an : Option Addr} {osl : Array (Option Value)} {kV dc pm cd ct : Value} {N : List Str} {d : Df}
    (X : K.In h) (Gn : h.Ns mainGlobals mg) (hfa : mg "law" = some (.ref fa))
    (a : PySem.W.nsIn K mainGlobals "law" = some (some (.ref f))) (l : K.lookup f = some ⟨oc, od, .func (PySem.W.fnOf "law" "law" (defArgs sx) (defBody sx) (defScope sx) .none kV dc pm an cd ct), osl⟩)
    (c : PySem.W.codeIn K cd "law" = true) (kp : PySem.W.keepIn K (.ref f) = true) (S : FnScope N [x] (defScope sx)) (hnp : d.np = 1) (hns : d.ns = N.length) (ck : ckSs (ckOf N (tb.map (·.1)) (defScope sx)) d.body (defBody sx) = true)
    (hb : ∀ (kV doc pm : Value) (an : Option Addr) (cdv ct : Value) (us : List Value), us.length = 1 → bindArgs (PySem.W.fnOf "law" "law" (defArgs sx) (defBody sx) (defScope sx) .none kV doc pm an cdv ct) ⟨us, []⟩ = pure ([x].zip us))
    (hd : ∀ p ∈ tb, DefK K mg (tb.map (·.1)) p.1 p.2)
    (hglb : ∀ x d, G x = some d → (∃ u v, mg x = some u ∧ RelV v u ∧ ∀ H F io, Rep K H F io v d) ∨ (mg x = none ∧ x ≠ "__name__" ∧ ∃ u v, bootBuiltins x = some u ∧ RelV v u ∧ ∀ H F io, Rep K H F io v d))
    (hblt : ∀ x ∈ (["len", "abs", "int", "list", "tuple", "max", "min", "isinstance", "range", "reversed", "zip", "enumerate"] : List Str), mg x = none)
    (hp : Plain (runD (tab (fun f => tb.lookup f) G k) G d) n) :
    ∃ fd : FuncData, (∀ (s : Shared) (v : Value), BindsTo s fd ⟨[v], []⟩ [(x, v)]) ∧ ∀ base : Heap, K.In base → base.Ns mainGlobals mg → FnOk P w K mg base (L2.CX P w) (k + 1) fa fd [x] (spLaw K n) := by
  have e := hfa.symm.trans (PySem.W.mg_of X Gn a)
  cases e
  have F := fun_mk (st := sx) l c kp
  refine ⟨_, fun s v => .of_eq (hb kV dc pm an cd ct [v] rfl), fun base _ _ => ?_⟩
  refine FnOk.imp (def_ok (dn := fun g => (tb.lookup g).isSome) F S hnp hns ck (fun g hg => ?_) (fun g hg => tab_ok hd hglb hblt k g hg) hglb hblt) (law_sp hp)
  have hg : g ∈ tb.map (·.1) := List.contains_iff_mem.mp hg
  cases hq : tb.lookup g with
  | some _ => rfl
  | none =>
    rw [List.mem_map] at hg
    obtain ⟨p, hp, rfl⟩ := hg
    rw [List.lookup_eq_none_iff] at hq
    have := hq p hp
    simp at this
theorem walk {l : PySem.W.OpenLaw} {q : Program} {loose : List Str} {XP : (Str → Option Value) → Heap → Prop} {YP : World → Heap → Prop} {d : DefRec} {K : Params → PySem.W.Frag} {n k : Nat} {x : Str} (hn : l.most = some n) (hn2 : n ≤ sizeLine) (hdf : d.params.defaults = [])
    (hr : Room k callerA) (hY : ∀ (w : World) (h : Heap), YP w h → (K w.params).In h)
    (F : ∀ (w : World) (mg : Str → Option Value) (fa : Addr) (h : Heap), (K w.params).In h → h.Ns mainGlobals mg → mg d.name = some (.ref fa) →
      ∃ fd : FuncData, (∀ (s : Shared) (u : Value), BindsTo s fd ⟨[u], []⟩ [(x, u)]) ∧ ∀ base : Heap, (K w.params).In base → base.Ns mainGlobals mg → FnOk l.prog w (K w.params) mg base (L2.CX l.prog w) k fa fd [x] (spLaw (K w.params) n)) :
    PySem.W.WalkO q loose XP YP l.row.toRowW d [] (fun f vs => PySem.call f vs) :=
  L2.walk_of (n := n) (k := k) (x := x) (CX := fun w => L2.CX l.prog w) (sp := fun w => spLaw (K w.params) n) hn hn2 hdf hr hY F (fun _ _ a ns hl _ hS => ⟨a, ns, rfl, hS, hl, fun _ => rfl⟩) fun _ _ _ _ _ z => cx_none z
/-! the globals by a list -/
def glbOf (l : List (Str × D)) : Glb := fun x => l.lookup x
mutual
inductive GV (K : PySem.W.Frag) : Value → D → Prop
  | int (i : Int) (t) : GV K (.int i t) (.int i)
  | str (s : Str) (t) : GV K (.str s t) (.str s)
  | bl (b : Bool) : GV K (.bool b) (.bool b)
  | non : GV K .none .none
  | tup {p : Addr} {dd : Option Addr} {us : List Value} {n : Nat} {sl : Array (Option Value)} {ds : List D} (l : K.lookup p = some ⟨.type "tuple", dd, .seq us.toArray n, sl⟩) (hs : us.length ≤ sizeLine) (h : GVs K us ds) : GV K (.ref p) (.tup ds)
  | lst {p : Addr} {us : List Value} {n : Nat} {sl : Array (Option Value)} {ds : List D} (l : K.lookup p = some ⟨.type "list", none, .seq us.toArray n, sl⟩) (hs : us.length ≤ sizeLine) (h : GVs K us ds) : GV K (.ref p) (.lst ds)
inductive GVs (K : PySem.W.Frag) : List Value → List D → Prop
  | nil : GVs K [] []
  | cons {u : Value} {d : D} {us : List Value} {ds : List D} (h : GV K u d) (hs : GVs K us ds) : GVs K (u :: us) (d :: ds)
end
mutual
theorem GV.rel {K : PySem.W.Frag} : ∀ {d : D} {u : Value}, GV K u d → ∃ v, RelV v u ∧ ∀ H F io, Rep K H F io v d
  | .int i, _, h => by cases h with | int i t => exact ⟨.int i, ⟨t, rfl⟩, fun _ _ _ => .int i⟩
  | .str s, _, h => by cases h with | str s t => exact ⟨.str s, ⟨t, rfl⟩, fun _ _ _ => .str s⟩
  | .bool b, _, h => by cases h; exact ⟨.bl b, rfl, fun _ _ _ => .bl b⟩
  | .none, _, h => by cases h; exact ⟨.non, rfl, fun _ _ _ => .non⟩
  | .tup ds, _, h => by
    cases h with
    | @tup p dd us n sl _ l hs h =>
      obtain ⟨vs, r, q⟩ := GVs.rel h
      exact ⟨.ref p, rfl, fun H F io => .tup (.inr ⟨_, us.toArray, n, l, rfl, rfl, by simpa using hs, by simpa using r⟩) (q H F io)⟩
  | .lst ds, _, h => by
    cases h with
    | @lst p us n sl _ l hs h =>
      obtain ⟨vs, r, q⟩ := GVs.rel h
      exact ⟨.ref p, rfl, fun H F io => .lst (.inr ⟨_, us.toArray, n, l, rfl, rfl, rfl, by simpa using hs, by simpa using r⟩) (q H F io)⟩
  | .dic _, _, h => by cases h
  | .loc _, _, h => by cases h
  | .ty _, _, h => by cases h
theorem GVs.rel {K : PySem.W.Frag} : ∀ {ds : List D} {us : List Value}, GVs K us ds → ∃ vs, Vals vs us ∧ ∀ H F io, RepL K H F io vs ds
  | [], _, h => by cases h; exact ⟨[], .nil, fun _ _ _ => .nil⟩
  | d :: ds, _, h => by
    cases h with
    | cons h hs =>
      obtain ⟨v, r, q⟩ := GV.rel h
      obtain ⟨vs, rs, qs⟩ := GVs.rel hs
      exact ⟨v :: vs, .cons r rs, fun H F io => .cons (q H F io) (qs H F io)⟩
end
def GOf (K : PySem.W.Frag) (mg : Str → Option Value) (x : Str) (d : D) : Prop := (∃ u v, mg x = some u ∧ RelV v u ∧ ∀ H F io, Rep K H F io v d) ∨ (mg x = none ∧ x ≠ "__name__" ∧ ∃ u v, bootBuiltins x = some u ∧ RelV v u ∧ ∀ H F io, Rep K H F io v d)
theorem gk {K : PySem.W.Frag} {h : Heap} {mg : Str → Option Value} (X : K.In h) (G : h.Ns mainGlobals mg) {x : Str} {u : Value} {d : D} (a : PySem.W.nsIn K mainGlobals x = some (some u)) (g : GV K u d) : GOf K mg x d := by
  obtain ⟨v, h1, h2⟩ := g.rel
  exact .inl ⟨u, v, PySem.W.mg_of X G a, h1, h2⟩
theorem gt {K : PySem.W.Frag} {mg : Str → Option Value} {x : Str} {n : String} (a : mg x = none) (hn : x ≠ "__name__") (b : bootBuiltins x = some (.type n)) : GOf K mg x (.ty n) :=
  .inr ⟨a, hn, _, .ty n, b, rfl, fun _ _ _ => .ty n⟩
theorem glb_all {K : PySem.W.Frag} {mg : Str → Option Value} {l : List (Str × D)} (h : ∀ p ∈ l, GOf K mg p.1 p.2) : ∀ x d, glbOf l x = some d → (∃ u v, mg x = some u ∧ RelV v u ∧ ∀ H F io, Rep K H F io v d) ∨ (mg x = none ∧ x ≠ "__name__" ∧ ∃ u v, bootBuiltins x = some u ∧ RelV v u ∧ ∀ H F io, Rep K H F io v d) :=
  fun x d e => h (x, d) (PySem.mem_of_lookup e)
theorem all_nil {α : Type} {P : α → Prop} : ∀ p ∈ ([] : List α), P p := by intro p h; simp at h
theorem all_cons {α : Type} {P : α → Prop} {a : α} {l : List α} (h : P a) (hl : ∀ p ∈ l, P p) : ∀ p ∈ a :: l, P p := by
  intro p hp
  rcases List.mem_cons.mp hp with rfl | hp
  · exact h
  · exact hl p hp
end Pv
namespace Pv
open PySem (Str Operator CmpOp)
/-! ## reckoning with the evaluator: equations for simp -/
section
variable {B : Tab} {G : Glb} {e : En} {s : Sto} {c a b d : E} {es r : Es} {i n : Nat} {x y : D}
@[simp] theorem ev_int {j : Int} : ev B G (.int j) e s = .ok (.int j, false) e s := by rw [ev]
@[simp] theorem ev_str {z : Str} : ev B G (.str z) e s = .ok (.str z, false) e s := by rw [ev]
@[simp] theorem ev_bl {z : Bool} : ev B G (.bl z) e s = .ok (.bool z, false) e s := by rw [ev]
@[simp] theorem ev_non : ev B G .non e s = .ok (.none, false) e s := by rw [ev]
@[simp] theorem ev_var : ev B G (.var i) e s = match e[i]? with
    | some (.fr d) => .ok (d, false) e s
    | some (.ow d) => .ok (d, false) (e.set i (.fr d)) s
    | _ => .no := by rw [ev] <;> rfl
@[simp] theorem ev_gl {z : Str} : ev B G (.gl z) e s = .of ((G z).map fun d => (d, false)) e s := by rw [ev]
def kBin (op : Operator) : List Ar → En → Sto → R DB := fun as e s => opR e s as fun ds => .of (binO op ds) e s
@[simp] theorem kBin_eq {op : Operator} {as : List Ar} : kBin op as e s = match (rd e as).bind (ders s) with
  | some ds => .of (binO op ds) e s
  | none => .no := (rfl)
@[simp] theorem ev_bin {op : Operator} : ev B G (.bin op es) e s = (ag B G es e s).bind (kBin op) := by rw [ev]; rfl
def kNeg : DB → En → Sto → R DB := fun d e s => match d.1 with
    | .int i => .ok (.int (-i), false) e s
    | _ => .no
@[simp] theorem kNeg_eq {w : Bool} {j : Int} : kNeg (.int j, w) e s = .ok (.int (-j), false) e s := (rfl)
@[simp] theorem ev_neg : ev B G (.neg a) e s = (ev B G a e s).bind kNeg := by rw [ev]; rfl
def kNot : DB → En → Sto → R DB := fun d e s => iff d (.ok (.bool false, false) e s) (.ok (.bool true, false) e s)
@[simp] theorem kNot_eq {w z : Bool} : kNot (.bool z, w) e s = .ok (.bool (!z), false) e s := by cases z <;> rfl
@[simp] theorem ev_not : ev B G (.not a) e s = (ev B G a e s).bind kNot := by rw [ev]; rfl
@[simp] theorem ev_and : ev B G (.and es) e s = evAnd B G es e s := by rw [ev]
@[simp] theorem ev_or : ev B G (.or es) e s = evOr B G es e s := by rw [ev]
def kIte (B : Tab) (G : Glb) (a b : E) : DB → En → Sto → R DB := fun d e s => iff d (ev B G a e s) (ev B G b e s)
@[simp] theorem kIte_eq {w z : Bool} : kIte B G a b (.bool z, w) e s = if z then ev B G a e s else ev B G b e s := by cases z <;> rfl
@[simp] theorem ev_ite : ev B G (.ite c a b) e s = (ev B G c e s).bind (kIte B G a b) := by rw [ev]; rfl
def kCmp (op : CmpOp) : List Ar → En → Sto → R DB := fun as e s => boolR ((rd e as).bind (cmpO op s)) e s
@[simp] theorem kCmp_eq {op : CmpOp} {as : List Ar} : kCmp op as e s = boolR ((rd e as).bind (cmpO op s)) e s := (rfl)
@[simp] theorem ev_cmp {op : CmpOp} : ev B G (.cmp op es) e s = (ag B G es e s).bind (kCmp op) := by rw [ev]; rfl
def kChe (o2 : CmpOp) (j : Int) : DB → En → Sto → R DB := fun z e s => boolR (cmpD o2 (.int j) z.1) e s
@[simp] theorem kChe_eq {o2 : CmpOp} {j : Int} {z : DB} : kChe o2 j z e s = boolR (cmpD o2 (.int j) z.1) e s := (rfl)
def kChm (B : Tab) (G : Glb) (o2 : CmpOp) (c : E) (j : Int) : Option Bool → En → Sto → R DB := fun o e s => match o with
  | some true => (ev B G c e s).bind (kChe o2 j)
  | some false => .ok (.bool false, false) e s
  | none => .no
@[simp] theorem kChm_eq {o2 : CmpOp} {j : Int} {z : Bool} : kChm B G o2 c j (some z) e s = if z then (ev B G c e s).bind (kChe o2 j) else .ok (.bool false, false) e s := by cases z <;> rfl
def kChn (B : Tab) (G : Glb) (o1 o2 : CmpOp) (c : E) : List Ar → En → Sto → R DB := fun as e s => match rd e as with
    | some [x, .int j] => kChm B G o2 c j (cmpD o1 x (.int j)) e s
    | _ => .no
@[simp] theorem kChn_eq {o1 o2 : CmpOp} {as : List Ar} : kChn B G o1 o2 c as e s = match rd e as with
    | some [x, .int j] => kChm B G o2 c j (cmpD o1 x (.int j)) e s
    | _ => .no := (rfl)
@[simp] theorem ev_chn {o1 o2 : CmpOp} : ev B G (.chn o1 o2 es c) e s = (ag B G es e s).bind (kChn B G o1 o2 c) := by
  rw [ev]; congr 1
def kTup : List Ar → En → Sto → R DB := fun as e s => match rd e as with
    | some ds => if ds.length ≤ sizeMax then .ok (.tup ds, false) (fz e as) s else .no
    | none => .no
@[simp] theorem kTup_eq {as : List Ar} : kTup as e s = match rd e as with
    | some ds => if ds.length ≤ sizeMax then .ok (.tup ds, false) (fz e as) s else .no
    | none => .no := (rfl)
@[simp] theorem ev_tup : ev B G (.tup es) e s = (ag B G es e s).bind kTup := by rw [ev]; rfl
def kLst (l : Bool) : List Ar → En → Sto → R DB := fun as e s => match rd e as with
    | some ds => if ds.length ≤ sizeMax then stow l (.lst ds) (fz e as) s else .no
    | none => .no
@[simp] theorem kLst_eq {l : Bool} {as : List Ar} : kLst l as e s = match rd e as with
    | some ds => if ds.length ≤ sizeMax then stow l (.lst ds) (fz e as) s else .no
    | none => .no := (rfl)
@[simp] theorem ev_lst {l : Bool} : ev B G (.lst l es) e s = (ag B G es e s).bind (kLst l) := by rw [ev]; rfl
def kCall (B : Tab) (p : Bool) (f : Str) : List Ar → En → Sto → R DB := fun as e s => match rd e as with
    | some ds => if p then (if nolL ds then callP (B f ds []) e as s else .no) else callS (B f ds s) e as
    | none => .no
@[simp] theorem kCall_eq {p : Bool} {f : Str} {as : List Ar} : kCall B p f as e s = match rd e as with
    | some ds => if p then (if nolL ds then callP (B f ds []) e as s else .no) else callS (B f ds s) e as
    | none => .no := (rfl)
@[simp] theorem ev_call {f : Str} {p : Bool} : ev B G (.call p f es) e s = (ag B G es e s).bind (kCall B p f) := by rw [ev]; rfl
def kBlt (f : Str) : List Ar → En → Sto → R DB := fun as e s => opR e s as fun ds => .of (bltD f ds) e s
@[simp] theorem kBlt_eq {f : Str} {as : List Ar} : kBlt f as e s = match (rd e as).bind (ders s) with
  | some ds => .of (bltD f ds) e s
  | none => .no := (rfl)
@[simp] theorem ev_blt {f : Str} : ev B G (.blt f es) e s = (ag B G es e s).bind (kBlt f) := by rw [ev]; rfl
def kChv (m : Str) (i : Nat) : List Ar → En → Sto → R DB := fun as e s => match rd e as with
    | some ds => chgS (fun x => chgD m x ds) i (fz e as) s
    | none => .no
@[simp] theorem kChv_eq {m : Str} {as : List Ar} : kChv m i as e s = match rd e as with
    | some ds => chgS (fun x => chgD m x ds) i (fz e as) s
    | none => .no := (rfl)
@[simp] theorem ev_chv {m : Str} : ev B G (.chv m i es) e s = if isLst e s i then (ag B G es e s).bind (kChv m i) else .no := by rw [ev]; rfl
def kCh2 (m : Str) (d : D) : List Ar → En → Sto → R DB := fun as e s => match rd e as with
    | some ds => chgO (fun x => chgD m x ds) d (fz e as) s
    | none => .no
@[simp] theorem kCh2_eq {m : Str} {d : D} {as : List Ar} : kCh2 m d as e s = match rd e as with
    | some ds => chgO (fun x => chgD m x ds) d (fz e as) s
    | none => .no := (rfl)
def kCho (B : Tab) (G : Glb) (m : Str) (es : Es) : DB → En → Sto → R DB := fun d e s => if isLoc s d.1 then (ag B G es e s).bind (kCh2 m d.1) else .no
@[simp] theorem kCho_eq {m : Str} {d : DB} : kCho B G m es d e s = if isLoc s d.1 then (ag B G es e s).bind (kCh2 m d.1) else .no := (rfl)
@[simp] theorem ev_cho {m : Str} : ev B G (.cho m a es) e s = (ev B G a e s).bind (kCho B G m es) := by rw [ev]; rfl
def kSub : List Ar → En → Sto → R DB := fun as e s => opR e s as fun ds => .of (subO ds) e s
@[simp] theorem kSub_eq {as : List Ar} : kSub as e s = match (rd e as).bind (ders s) with
  | some ds => .of (subO ds) e s
  | none => .no := (rfl)
@[simp] theorem ev_sub : ev B G (.sub es) e s = (ag B G es e s).bind kSub := by rw [ev]; rfl
def kSlc (k : Nat) : List Ar → En → Sto → R DB := fun as e s => opR e s as fun ds => .of (slcO k ds) e s
@[simp] theorem kSlc_eq {k : Nat} {as : List Ar} : kSlc k as e s = match (rd e as).bind (ders s) with
  | some ds => .of (slcO k ds) e s
  | none => .no := (rfl)
@[simp] theorem ev_slc {k : Nat} : ev B G (.slc k es) e s = (ag B G es e s).bind (kSlc k) := by rw [ev]; rfl
def kSl2 (as : List Ar) : DB → En → Sto → R DB := fun d e s => opR e s as fun ds => .of (slcO 3 (ds ++ [d.1])) e s
@[simp] theorem kSl2_eq {as : List Ar} {d : DB} : kSl2 as d e s = match (rd e as).bind (ders s) with
  | some ds => .of (slcO 3 (ds ++ [d.1])) e s
  | none => .no := (rfl)
def kSlb (B : Tab) (G : Glb) (c : E) : List Ar → En → Sto → R DB := fun as e s => match rd e as with
    | some [_, .int _] => (ev B G c e s).bind (kSl2 as)
    | _ => .no
@[simp] theorem kSlb_eq {as : List Ar} : kSlb B G c as e s = match rd e as with
    | some [_, .int _] => (ev B G c e s).bind (kSl2 as)
    | _ => .no := (rfl)
@[simp] theorem ev_slb : ev B G (.slb es c) e s = (ag B G es e s).bind (kSlb B G c) := by rw [ev]; rfl
@[simp] theorem evAnd_nil : evAnd B G .nil e s = .ok (.bool true, false) e s := by rw [evAnd]
@[simp] theorem evAnd_one : evAnd B G (.cons a .nil) e s = ev B G a e s := by rw [evAnd]
def kAnd (B : Tab) (G : Glb) (r : Es) : DB → En → Sto → R DB := fun d e s => iff d (evAnd B G r e s) (.ok (.bool false, false) e s)
@[simp] theorem kAnd_eq {w z : Bool} : kAnd B G r (.bool z, w) e s = if z then evAnd B G r e s else .ok (.bool false, false) e s := by cases z <;> rfl
@[simp] theorem evAnd_cons : evAnd B G (.cons a (.cons b r)) e s = (ev B G a e s).bind (kAnd B G (.cons b r)) := by rw [evAnd]; rfl
@[simp] theorem evOr_one : evOr B G (.cons a .nil) e s = ev B G a e s := by rw [evOr]
def kOr (B : Tab) (G : Glb) (r : Es) : DB → En → Sto → R DB := fun d e s => iff d (.ok (.bool true, false) e s) (evOr B G r e s)
@[simp] theorem kOr_eq {w z : Bool} : kOr B G r (.bool z, w) e s = if z then .ok (.bool true, false) e s else evOr B G r e s := by cases z <;> rfl
@[simp] theorem evOr_cons : evOr B G (.cons a (.cons b r)) e s = (ev B G a e s).bind (kOr B G (.cons b r)) := by rw [evOr]; rfl
@[simp] theorem ag_nil : ag B G .nil e s = .ok [] e s := by rw [ag]
def kAs (i : Nat) : List Ar → En → Sto → R (List Ar) := fun as e s => .ok (.s i :: as) e s
@[simp] theorem kAs_eq {as : List Ar} : kAs i as e s = .ok (.s i :: as) e s := (rfl)
def kAv (d : D) : List Ar → En → Sto → R (List Ar) := fun as e s => .ok (.v d :: as) e s
@[simp] theorem kAv_eq {d : D} {as : List Ar} : kAv d as e s = .ok (.v d :: as) e s := (rfl)
def kAg (B : Tab) (G : Glb) (r : Es) : DB → En → Sto → R (List Ar) := fun d e s => (ag B G r e s).bind (kAv d.1)
@[simp] theorem kAg_eq {d : DB} : kAg B G r d e s = (ag B G r e s).bind (kAv d.1) := (rfl)
@[simp] theorem ag_var : ag B G (.cons (.var i) r) e s = if isDef e i then (ag B G r e s).bind (kAs i) else .no := by rw [ag]; rfl
theorem agC (h : ∀ i, a ≠ .var i) : ag B G (.cons a r) e s = (ev B G a e s).bind (kAg B G r) := by
  rw [ag]
  · rfl
  · exact h
@[simp] theorem ag_int {j : Int} : ag B G (.cons (.int j) r) e s = (ag B G r e s).bind (kAv (.int j)) := by rw [agC (by simp), ev_int]; rfl
@[simp] theorem ag_str {j : Str} : ag B G (.cons (.str j) r) e s = (ag B G r e s).bind (kAv (.str j)) := by rw [agC (by simp), ev_str]; rfl
@[simp] theorem ag_bl {j : Bool} : ag B G (.cons (.bl j) r) e s = (ag B G r e s).bind (kAv (.bool j)) := by rw [agC (by simp), ev_bl]; rfl
@[simp] theorem ag_non : ag B G (.cons .non r) e s = (ag B G r e s).bind (kAv .none) := by rw [agC (by simp), ev_non]; rfl
@[simp] theorem ag_gl {z : Str} : ag B G (.cons (.gl z) r) e s = (ev B G (.gl z) e s).bind (kAg B G r) := agC (by simp)
@[simp] theorem ag_bin {op : Operator} : ag B G (.cons (.bin op es) r) e s = (ev B G (.bin op es) e s).bind (kAg B G r) := agC (by simp)
@[simp] theorem ag_neg : ag B G (.cons (.neg a) r) e s = (ev B G (.neg a) e s).bind (kAg B G r) := agC (by simp)
@[simp] theorem ag_not : ag B G (.cons (.not a) r) e s = (ev B G (.not a) e s).bind (kAg B G r) := agC (by simp)
@[simp] theorem ag_and : ag B G (.cons (.and es) r) e s = (ev B G (.and es) e s).bind (kAg B G r) := agC (by simp)
@[simp] theorem ag_or : ag B G (.cons (.or es) r) e s = (ev B G (.or es) e s).bind (kAg B G r) := agC (by simp)
@[simp] theorem ag_ite : ag B G (.cons (.ite c a b) r) e s = (ev B G (.ite c a b) e s).bind (kAg B G r) := agC (by simp)
@[simp] theorem ag_cmp {op : CmpOp} : ag B G (.cons (.cmp op es) r) e s = (ev B G (.cmp op es) e s).bind (kAg B G r) := agC (by simp)
@[simp] theorem ag_chn {o p : CmpOp} : ag B G (.cons (.chn o p es a) r) e s = (ev B G (.chn o p es a) e s).bind (kAg B G r) := agC (by simp)
@[simp] theorem ag_tup : ag B G (.cons (.tup es) r) e s = (ev B G (.tup es) e s).bind (kAg B G r) := agC (by simp)
@[simp] theorem ag_lst {l : Bool} : ag B G (.cons (.lst l es) r) e s = (ev B G (.lst l es) e s).bind (kAg B G r) := agC (by simp)
@[simp] theorem ag_call {p : Bool} {f : Str} : ag B G (.cons (.call p f es) r) e s = (ev B G (.call p f es) e s).bind (kAg B G r) := agC (by simp)
@[simp] theorem ag_blt {f : Str} : ag B G (.cons (.blt f es) r) e s = (ev B G (.blt f es) e s).bind (kAg B G r) := agC (by simp)
@[simp] theorem ag_chv {f : Str} : ag B G (.cons (.chv f i es) r) e s = (ev B G (.chv f i es) e s).bind (kAg B G r) := agC (by simp)
@[simp] theorem ag_cho {f : Str} : ag B G (.cons (.cho f a es) r) e s = (ev B G (.cho f a es) e s).bind (kAg B G r) := agC (by simp)
@[simp] theorem ag_sub : ag B G (.cons (.sub es) r) e s = (ev B G (.sub es) e s).bind (kAg B G r) := agC (by simp)
@[simp] theorem ag_slc {k : Nat} : ag B G (.cons (.slc k es) r) e s = (ev B G (.slc k es) e s).bind (kAg B G r) := agC (by simp)
@[simp] theorem ag_slb : ag B G (.cons (.slb es a) r) e s = (ev B G (.slb es a) e s).bind (kAg B G r) := agC (by simp)
def kIt : DB → En → Sto → R (List D) := fun d e s => match itemsD d.1 with
    | some xs => .ok xs e s
    | none => .no
@[simp] theorem kIt_eq {d : DB} : kIt d e s = match itemsD d.1 with
    | some xs => .ok xs e s
    | none => .no := (rfl)
@[simp] theorem its_it : its B G (.it a) e s = (ev B G a e s).bind kIt := by rw [its]; rfl
def kRg1 : DB → En → Sto → R (List D) := fun d e s => match d.1 with
    | .int j => if small62 j then .ok (rangeL 0 j) e s else .no
    | _ => .no
@[simp] theorem kRg1_eq {w : Bool} {j : Int} : kRg1 (.int j, w) e s = if small62 j then .ok (rangeL 0 j) e s else .no := (rfl)
@[simp] theorem its_rg1 : its B G (.rg1 a) e s = (ev B G a e s).bind kRg1 := by rw [its]; rfl
def kRgb (x : DB) : DB → En → Sto → R (List D) := fun y e s => match x.1, y.1 with
    | .int i, .int j => if small62 i && small62 j then .ok (rangeL i j) e s else .no
    | _, _ => .no
@[simp] theorem kRgb_eq {w u : Bool} {j k : Int} : kRgb (.int j, w) (.int k, u) e s = if small62 j && small62 k then .ok (rangeL j k) e s else .no := (rfl)
def kRg2 (B : Tab) (G : Glb) (b : E) : DB → En → Sto → R (List D) := fun x e s => (ev B G b e s).bind (kRgb x)
@[simp] theorem kRg2_eq {x : DB} : kRg2 B G b x e s = (ev B G b e s).bind (kRgb x) := (rfl)
@[simp] theorem its_rg2 : its B G (.rg2 a b) e s = (ev B G a e s).bind (kRg2 B G b) := by rw [its]; rfl
def kRev : DB → En → Sto → R (List D) := fun d e s => match d.1 with
    | .lst xs => .ok xs.reverse e s
    | _ => .no
@[simp] theorem kRev_eq {w : Bool} {l : List D} : kRev (.lst l, w) e s = .ok l.reverse e s := (rfl)
@[simp] theorem its_rev : its B G (.rev a) e s = (ev B G a e s).bind kRev := by rw [its]; rfl
@[simp] theorem asg_nm {v : DB} : asg B G (.nm i) v e s = if i < e.length then .ok () (putN e i v) s else .no := by rw [asg]
@[simp] theorem asg_tp {v : DB} {ts : Ts} : asg B G (.tp ts) v e s = match v.1 with
    | .tup xs => if xs.length = tsLen ts then asgs B G ts xs e s else .no
    | _ => .no := by rw [asg] <;> rfl
def setF (k v : D) : D → Option (D × D) := fun x => (setD x k v).map fun x' => (.none, x')
@[simp] theorem setF_eq {k v : D} : setF k v x = (setD x k v).map fun x' => (.none, x') := (rfl)
def kU {α : Type} : α → En → Sto → R Unit := fun _ e s => .ok () e s
@[simp] theorem kU_eq {α : Type} {z : α} : kU z e s = .ok () e s := (rfl)
def kSbv (n : Nat) (v : D) : DB → En → Sto → R Unit := fun k e s => (chgS (setF k.1 v) n e s).bind kU
@[simp] theorem kSbv_eq {v : D} {k : DB} : kSbv n v k e s = (chgS (setF k.1 v) n e s).bind kU := (rfl)
@[simp] theorem asg_sbv {v : DB} : asg B G (.sbv n a) v e s = if isDef e n then (ev B G a e s).bind (kSbv n v.1) else .no := by rw [asg]; rfl
def kSb2 (d v : D) : DB → En → Sto → R Unit := fun k e s => (chgO (setF k.1 v) d e s).bind kU
@[simp] theorem kSb2_eq {d v : D} {k : DB} : kSb2 d v k e s = (chgO (setF k.1 v) d e s).bind kU := (rfl)
def kSbo (B : Tab) (G : Glb) (b : E) (v : D) : DB → En → Sto → R Unit := fun d e s => (ev B G b e s).bind (kSb2 d.1 v)
@[simp] theorem kSbo_eq {v : D} {d : DB} : kSbo B G b v d e s = (ev B G b e s).bind (kSb2 d.1 v) := (rfl)
@[simp] theorem asg_sbo {v : DB} : asg B G (.sbo a b) v e s = (ev B G a e s).bind (kSbo B G b v.1) := by rw [asg]; rfl
@[simp] theorem asgs_nil : asgs B G .nil [] e s = .ok () e s := by rw [asgs]
def kAsgs (B : Tab) (G : Glb) (ts : Ts) (xs : List D) : Unit → En → Sto → R Unit := fun _ e s => asgs B G ts xs e s
@[simp] theorem kAsgs_eq {ts : Ts} {xs : List D} {z : Unit} : kAsgs B G ts xs z e s = asgs B G ts xs e s := (rfl)
@[simp] theorem asgs_cons {t : T} {ts : Ts} {xs : List D} : asgs B G (.cons t ts) (x :: xs) e s = (asg B G t (x, false) e s).bind (kAsgs B G ts xs) := by rw [asgs]; rfl
@[simp] theorem tsLen_nil : tsLen .nil = 0 := (rfl)
@[simp] theorem tsLen_cons {t : T} {ts : Ts} : tsLen (.cons t ts) = tsLen ts + 1 := (rfl)
def kNx {α : Type} : α → En → Sto → R O := fun _ e s => .ok .nx e s
@[simp] theorem kNx_eq {α : Type} {z : α} : kNx z e s = .ok .nx e s := (rfl)
@[simp] theorem xS_exp : xS B G (.exp a) e s = (ev B G a e s).bind kNx := by rw [xS]; rfl
def kSet (B : Tab) (G : Glb) (t : T) : DB → En → Sto → R O := fun d e s => (asg B G t d e s).bind kNx
@[simp] theorem kSet_eq {t : T} {d : DB} : kSet B G t d e s = (asg B G t d e s).bind kNx := (rfl)
@[simp] theorem xS_set {t : T} : xS B G (.set t a) e s = (ev B G a e s).bind (kSet B G t) := by rw [xS]; rfl
def kAug (i : Nat) (op : Operator) (x : D) : DB → En → Sto → R O := fun d e s => match augD op x d.1 with
      | some r => .ok .nx (putN e i (r, false)) s
      | none => .no
@[simp] theorem kAug_eq {op : Operator} {d : DB} : kAug i op x d e s = match augD op x d.1 with
      | some r => .ok .nx (putN e i (r, false)) s
      | none => .no := (rfl)
@[simp] theorem xS_aug {op : Operator} : xS B G (.aug i op a) e s = match e[i]? with
    | some (.fr x) => (ev B G a e s).bind (kAug i op x)
    | _ => .no := by rw [xS]; rfl
def kIfs (B : Tab) (G : Glb) (u v : Ss) : DB → En → Sto → R O := fun d e s => match d.1 with
  | .bool z => if z then xL B G u e s else xL B G v e s
  | _ => .no
@[simp] theorem kIfs_eq {u v : Ss} {z w : Bool} : kIfs B G u v (.bool z, w) e s = if z then xL B G u e s else xL B G v e s := (rfl)
@[simp] theorem xS_ifs {u v : Ss} : xS B G (.ifs c u v) e s = (ev B G c e s).bind (kIfs B G u v) := by
  rw [xS]; unfold evB
  cases ev B G c e s with
  | ok d e s => cases d with | mk d w => cases d <;> rfl
  | ex x e s => rfl
  | no => rfl
def cndW (B : Tab) (G : Glb) (c : E) : En → Sto → R Bool := fun e s => evB B G c e s
def bodW (B : Tab) (G : Glb) (u : Ss) : En → Sto → R O := fun e s => xL B G u e s
theorem xS_whl {u : Ss} : xS B G (.whl c u) e s = whlL (cndW B G c) (bodW B G u) fuel e s := by rw [xS]; rfl
/-- a turn of a loop -/
def turn (B : Tab) (G : Glb) (t : T) (u : Ss) : D → En → Sto → R O := fun x e s => (asg B G t (x, false) e s).bind fun _ e s => xL B G u e s
def kTurn (B : Tab) (G : Glb) (u : Ss) : Unit → En → Sto → R O := fun _ e s => xL B G u e s
@[simp] theorem kTurn_eq {u : Ss} {z : Unit} : kTurn B G u z e s = xL B G u e s := (rfl)
@[simp] theorem turn_eq {t : T} {u : Ss} : turn B G t u x e s = (asg B G t (x, false) e s).bind (kTurn B G u) := (rfl)
def kFor (f : D → En → Sto → R O) : List D → En → Sto → R O := fun xs e s => forL f xs e s
@[simp] theorem kFor_eq {f : D → En → Sto → R O} {l : List D} : kFor f l e s = forL f l e s := (rfl)
@[simp] theorem xS_for {t : T} {it : I} {u : Ss} : xS B G (.for_ t it u) e s = (its B G it e s).bind (kFor (turn B G t u)) := by rw [xS]; rfl
def kRet : DB → En → Sto → R O := fun d e s => .ok (.rt d.1 d.2) e s
@[simp] theorem kRet_eq {d : DB} : kRet d e s = .ok (.rt d.1 d.2) e s := (rfl)
@[simp] theorem xS_ret : xS B G (.ret a) e s = (ev B G a e s).bind kRet := by rw [xS]; rfl
@[simp] theorem xS_retN : xS B G .retN e s = .ok (.rt .none false) e s := by rw [xS]
@[simp] theorem xS_brk : xS B G .brk e s = .ok .bk e s := by rw [xS]
@[simp] theorem xS_cnt : xS B G .cnt e s = .ok .ct e s := by rw [xS]
@[simp] theorem xS_pas : xS B G .pas e s = .ok .nx e s := by rw [xS]
@[simp] theorem xL_nil : xL B G .nil e s = .ok .nx e s := by rw [xL]
def kL (B : Tab) (G : Glb) (v : Ss) : O → En → Sto → R O := fun o e s => match o with
    | .nx => xL B G v e s
    | o => .ok o e s
@[simp] theorem kL_nx {v : Ss} : kL B G v .nx e s = xL B G v e s := (rfl)
@[simp] theorem kL_rt {v : Ss} {w : Bool} : kL B G v (.rt x w) e s = .ok (.rt x w) e s := (rfl)
@[simp] theorem kL_bk {v : Ss} : kL B G v .bk e s = .ok .bk e s := (rfl)
@[simp] theorem kL_ct {v : Ss} : kL B G v .ct e s = .ok .ct e s := (rfl)
@[simp] theorem xL_cons {u : S} {v : Ss} : xL B G (.cons u v) e s = (xS B G u e s).bind (kL B G v) := by
  rw [xL]; congr 1
def kB : DB → En → Sto → R Bool := fun d e s => match d.1 with
  | .bool b => .ok b e s
  | _ => .no
@[simp] theorem kB_eq {z w : Bool} : kB (.bool z, w) e s = .ok z e s := (rfl)
@[simp] theorem evB_eq : evB B G c e s = (ev B G c e s).bind kB := (rfl)
@[simp] theorem forL_nil {f : D → En → Sto → R O} : forL f [] e s = .ok .nx e s := (rfl)
def kTn (f : D → En → Sto → R O) (xs : List D) : O → En → Sto → R O := fun o e s => match o with
    | .nx | .ct => forL f xs e s
    | .bk => .ok .nx e s
    | .rt d w => .ok (.rt d w) e s
@[simp] theorem kTn_nx {f : D → En → Sto → R O} {xs : List D} : kTn f xs .nx e s = forL f xs e s := (rfl)
@[simp] theorem kTn_ct {f : D → En → Sto → R O} {xs : List D} : kTn f xs .ct e s = forL f xs e s := (rfl)
@[simp] theorem kTn_bk {f : D → En → Sto → R O} {xs : List D} : kTn f xs .bk e s = .ok .nx e s := (rfl)
@[simp] theorem kTn_rt {f : D → En → Sto → R O} {xs : List D} {w : Bool} : kTn f xs (.rt x w) e s = .ok (.rt x w) e s := (rfl)
@[simp] theorem forL_cons {f : D → En → Sto → R O} {xs : List D} : forL f (x :: xs) e s = (f x e s).bind (kTn f xs) := by
  show (f x e s).bind _ = _
  congr 1
def kWb (c : En → Sto → R Bool) (f : En → Sto → R O) (n : Nat) : O → En → Sto → R O := fun o e s => match o with
      | .nx | .ct => whlL c f n e s
      | .bk => .ok .nx e s
      | .rt d w => .ok (.rt d w) e s
@[simp] theorem kWb_nx {c : En → Sto → R Bool} {f : En → Sto → R O} {n : Nat} : kWb c f n .nx e s = whlL c f n e s := (rfl)
@[simp] theorem kWb_ct {c : En → Sto → R Bool} {f : En → Sto → R O} {n : Nat} : kWb c f n .ct e s = whlL c f n e s := (rfl)
@[simp] theorem kWb_bk {c : En → Sto → R Bool} {f : En → Sto → R O} {n : Nat} : kWb c f n .bk e s = .ok .nx e s := (rfl)
@[simp] theorem kWb_rt {c : En → Sto → R Bool} {f : En → Sto → R O} {n : Nat} {w : Bool} : kWb c f n (.rt x w) e s = .ok (.rt x w) e s := (rfl)
def kWc (c : En → Sto → R Bool) (f : En → Sto → R O) (n : Nat) : Bool → En → Sto → R O := fun b e s => if b then (f e s).bind (kWb c f n) else .ok .nx e s
theorem kWc_eq {c : En → Sto → R Bool} {f : En → Sto → R O} {n : Nat} {b : Bool} : kWc c f n b e s = if b then (f e s).bind (kWb c f n) else .ok .nx e s := (rfl)
theorem whlL_succ {f : En → Sto → R Bool} {g : En → Sto → R O} {n : Nat} : whlL f g (n + 1) e s = (f e s).bind (kWc f g n) := by
  show (f e s).bind _ = _
  congr 1
/-- a loop by an invariant -/
theorem forL_inv {f : D → En → Sto → R O} (P : Nat → En → Sto → Prop) : ∀ (xs : List D) (j : Nat) (e : En) (s : Sto), P j e s → (∀ i x e s, xs[i]? = some x → P (j + i) e s → ∃ e' s', f x e s = .ok .nx e' s' ∧ P (j + i + 1) e' s') → ∃ e' s', forL f xs e s = .ok .nx e' s' ∧ P (j + xs.length) e' s'
  | [], j, e, s, h, _ => ⟨e, s, rfl, h⟩
  | x :: xs, j, e, s, h, st => by
    obtain ⟨e1, s1, h1, h2⟩ := st 0 x e s rfl h
    obtain ⟨e2, s2, h3, h4⟩ := forL_inv P xs (j + 1) e1 s1 h2 (fun i y e s hy hp => by
      have := st (i + 1) y e s (by simpa using hy) (by rwa [show j + (i + 1) = j + 1 + i by omega])
      rwa [show j + (i + 1) + 1 = j + 1 + i + 1 by omega] at this)
    exact ⟨e2, s2, by rw [forL_cons, h1]; exact h3, by rw [List.length_cons, show j + (xs.length + 1) = j + 1 + xs.length by omega]; exact h4⟩
/-- .. over the first numbers -/
theorem forL_range {f : D → En → Sto → R O} (P : Nat → En → Sto → Prop) {m : Int} {e : En} {s : Sto} (h : P 0 e s) (st : ∀ (i : Nat) e s, (i : Int) < m → P i e s → ∃ e' s', f (.int i) e s = .ok .nx e' s' ∧ P (i + 1) e' s') : ∃ e' s', forL f (rangeL 0 m) e s = .ok .nx e' s' ∧ P m.toNat e' s' := by
  obtain ⟨e', s', h1, h2⟩ := forL_inv (f := f) P (rangeL 0 m) 0 e s h (fun i x e s hx hp => by
    unfold rangeL at hx
    rw [List.getElem?_map] at hx
    have hi : i < (m - 0).toNat := by
      by_cases q : i < (m - 0).toNat
      · exact q
      · rw [List.getElem?_eq_none (by simpa using q)] at hx; cases hx
    rw [List.getElem?_range hi] at hx
    have hx : D.int (0 + (i : Int)) = x := by simpa using hx
    rw [Int.zero_add] at hx
    subst hx
    have := st i e s (by omega) (by simpa using hp)
    simpa using this)
  refine ⟨e', s', h1, ?_⟩
  have : (rangeL 0 m).length = m.toNat := by unfold rangeL; simp
  rw [this] at h2
  simpa using h2
@[simp] theorem rd_nil : rd e [] = some [] := (rfl)
@[simp] theorem rd_cons {u : Ar} {l : List Ar} : rd e (u :: l) = (rd1 e u).bind fun d => (rd e l).map (d :: ·) := (rfl)
@[simp] theorem rd1_v : rd1 e (.v x) = some x := (rfl)
@[simp] theorem rd1_s : rd1 e (.s i) = (e[i]?).bind rdS := (rfl)
@[simp] theorem rdS_fr : rdS (.fr x) = some x := (rfl)
@[simp] theorem rdS_ow : rdS (.ow x) = some x := (rfl)
@[simp] theorem isDef_eq : isDef e i = match e[i]? with
  | some (.fr _) | some (.ow _) => true
  | _ => false := rfl
@[simp] theorem isLst_eq : isLst e s i = match e[i]? with
  | some (.ow (.lst _)) => true
  | some (.fr (.loc n)) => match s[n]? with
    | some (.lst _) => true
    | _ => false
  | _ => false := rfl
@[simp] theorem isLoc_loc : isLoc s (.loc n) = match s[n]? with
    | some (.lst _) => true
    | _ => false := rfl
@[simp] theorem fz_nil : fz e [] = e := (rfl)
@[simp] theorem fz_v {l : List Ar} : fz e (.v x :: l) = fz e l := (rfl)
@[simp] theorem fz_s {l : List Ar} : fz e (.s i :: l) = fz (fz1 e i) l := (rfl)
@[simp] theorem fz1_eq : fz1 e i = match e[i]? with
  | some (.ow d) => e.set i (.fr d)
  | _ => e := rfl
@[simp] theorem ders_nil : ders s [] = some [] := (rfl)
@[simp] theorem ders_cons {l : List D} : ders s (x :: l) = (der s x).bind fun x => (ders s l).map (x :: ·) := (rfl)
@[simp] theorem der_loc : der s (.loc n) = s[n]? := (rfl)
@[simp] theorem der_int {j : Int} : der s (.int j) = some (.int j) := (rfl)
@[simp] theorem der_str {j : Str} : der s (.str j) = some (.str j) := (rfl)
@[simp] theorem der_bool {j : Bool} : der s (.bool j) = some (.bool j) := (rfl)
@[simp] theorem der_none : der s .none = some .none := (rfl)
@[simp] theorem der_tup {l : List D} : der s (.tup l) = some (.tup l) := (rfl)
@[simp] theorem der_lst {l : List D} : der s (.lst l) = some (.lst l) := (rfl)
@[simp] theorem der_ty {j : String} : der s (.ty j) = some (.ty j) := (rfl)
@[simp] theorem stow_t : stow true x e s = .ok (.loc s.length, false) e (s ++ [x]) := (rfl)
@[simp] theorem stow_f : stow false x e s = .ok (x, true) e s := (rfl)
@[simp] theorem opR_eq {as : List Ar} {f : List D → R DB} : opR e s as f = match (rd e as).bind (ders s) with
  | some ds => f ds
  | none => .no := rfl
@[simp] theorem iff_t {w : Bool} {u v : R DB} : iff (.bool true, w) u v = u := (rfl)
@[simp] theorem iff_f {w : Bool} {u v : R DB} : iff (.bool false, w) u v = v := (rfl)
@[simp] theorem iff_b {z : Bool} {w : Bool} {u v : R DB} : iff (.bool z, w) u v = if z then u else v := by cases z <;> rfl
@[simp] theorem boolR_some {z : Bool} : boolR (some z) e s = .ok (.bool z, false) e s := (rfl)
@[simp] theorem callS_rt {w : Bool} {s' : Sto} {as : List Ar} : callS (some (.rt x w, s')) e as = .ok (x, w) (fz e as) s' := (rfl)
@[simp] theorem callS_rx {z : Xc} {s' : Sto} {as : List Ar} : callS (some (.rx z, s')) e as = .ex z (fz e as) s' := (rfl)
@[simp] theorem callP_int {w : Bool} {s' : Sto} {as : List Ar} {j : Int} : callP (some (.rt (.int j) w, s')) e as s = .ok (.int j, w) e s := by simp [callP, tight, D.imm]
@[simp] theorem callP_str {w : Bool} {s' : Sto} {as : List Ar} {j : Str} : callP (some (.rt (.str j) w, s')) e as s = .ok (.str j, w) e s := by simp [callP, tight, D.imm]
@[simp] theorem callP_bool {w : Bool} {s' : Sto} {as : List Ar} {j : Bool} : callP (some (.rt (.bool j) w, s')) e as s = .ok (.bool j, w) e s := by simp [callP, tight, D.imm]
@[simp] theorem callP_none {w : Bool} {s' : Sto} {as : List Ar} : callP (some (.rt .none w, s')) e as s = .ok (.none, w) e s := by simp [callP, tight, D.imm]
theorem callP_lst {s' : Sto} {as : List Ar} {l : List D} (h : immL l = true) : callP (some (.rt (.lst l) true, s')) e as s = .ok (.lst l, true) e s := by simp [callP, tight, D.imm, h]
theorem callP_tup {w : Bool} {s' : Sto} {as : List Ar} {l : List D} (h : immL l = true) : callP (some (.rt (.tup l) w, s')) e as s = .ok (.tup l, w) e s := by simp [callP, tight, D.imm, h]
@[simp] theorem nolL_nil : nolL [] = true := by rw [nolL]
@[simp] theorem nolL_cons {l : List D} : nolL (x :: l) = (x.nol && nolL l) := by rw [nolL]
@[simp] theorem nol_int {j : Int} : (D.int j).nol = true := by rw [D.nol]
@[simp] theorem nol_str {j : Str} : (D.str j).nol = true := by rw [D.nol]
@[simp] theorem nol_bool {j : Bool} : (D.bool j).nol = true := by rw [D.nol]
@[simp] theorem nol_none : (D.none).nol = true := by rw [D.nol]
@[simp] theorem nol_tup {l : List D} : (D.tup l).nol = nolL l := by rw [D.nol]
@[simp] theorem nol_lst {l : List D} : (D.lst l).nol = nolL l := by rw [D.nol]
@[simp] theorem nolL_ints {l : List Int} : nolL (l.map D.int) = true := by induction l <;> simp_all
@[simp] theorem immL_ints {l : List Int} : immL (l.map D.int) = true := by induction l <;> simp_all [immL, D.imm]
@[simp] theorem nolL_append {l m : List D} : nolL (l ++ m) = (nolL l && nolL m) := by induction l <;> simp_all [Bool.and_assoc]
@[simp] theorem putN_f : putN e i (x, false) = e.set i (.fr x) := (rfl)
@[simp] theorem putN_t : putN e i (x, true) = e.set i (.ow x) := (rfl)
/-! operators -/
@[simp] theorem binO_eq {op : Operator} : binO op [x, y] = binD op x y := (rfl)
@[simp] theorem nul_eq : nul x = some (x, false) := (rfl)
@[simp] theorem bin_add {p q : Int} : binD .Add (.int p) (.int q) = some (.int (p + q), false) := (rfl)
@[simp] theorem bin_sub {p q : Int} : binD .Sub (.int p) (.int q) = some (.int (p - q), false) := (rfl)
@[simp] theorem bin_mul {p q : Int} : binD .Mult (.int p) (.int q) = if (-litI < p ∧ p < litI) ∨ (-litI < q ∧ q < litI) then some (.int (p * q), false) else none := (rfl)
@[simp] theorem bin_div {p q : Int} : binD .FloorDiv (.int p) (.int q) = if 0 < q ∧ q < wideI then some (.int (p / q), false) else none := (rfl)
@[simp] theorem bin_mod {p q : Int} : binD .Mod (.int p) (.int q) = if 0 < q then some (.int (p % q), false) else none := (rfl)
@[simp] theorem bin_and {p q : Int} : binD .BitAnd (.int p) (.int q) = some (.int (PySem.Builtin.bitAnd p q), false) := (rfl)
@[simp] theorem bin_or {p q : Int} : binD .BitOr (.int p) (.int q) = some (.int (PySem.Builtin.bitOr p q), false) := (rfl)
@[simp] theorem bin_xor {p q : Int} : binD .BitXor (.int p) (.int q) = some (.int (PySem.Builtin.bitXor p q), false) := (rfl)
@[simp] theorem bin_shl {p q : Int} : binD .LShift (.int p) (.int q) = if (0 ≤ q ∧ q ≤ 1000000) ∧ -litI < p ∧ p < litI then some (.int (p * 2 ^ q.toNat), false) else none := (rfl)
@[simp] theorem bin_shr {p q : Int} : binD .RShift (.int p) (.int q) = if 0 ≤ q then some (.int (p / 2 ^ q.toNat), false) else none := (rfl)
@[simp] theorem bin_addl {p q : List D} : binD .Add (.lst p) (.lst q) = if p.length + q.length ≤ sizeMax then some (.lst (p ++ q), true) else none := (rfl)
@[simp] theorem bin_addt {p q : List D} : binD .Add (.tup p) (.tup q) = if p.length + q.length ≤ sizeMax then some (.tup (p ++ q), false) else none := (rfl)
@[simp] theorem bin_adds {p q : Str} : binD .Add (.str p) (.str q) = if p.length + q.length ≤ sizeMax then some (.str (p ++ q), false) else none := (rfl)
@[simp] theorem subO_eq : subO [x, y] = (subD x y).map fun d => (d, false) := (rfl)
@[simp] theorem subD_lst {l : List D} {j : Int} : subD (.lst l) (.int j) = L2.atI l j := (rfl)
@[simp] theorem subD_tup {l : List D} {j : Int} : subD (.tup l) (.int j) = L2.atI l j := (rfl)
@[simp] theorem slcO0 : slcO 0 [x] = slcD x none none := (rfl)
@[simp] theorem slcO1 {j : Int} : slcO 1 [x, .int j] = slcD x (some j) none := (rfl)
@[simp] theorem slcO2 {j : Int} : slcO 2 [x, .int j] = slcD x none (some j) := (rfl)
@[simp] theorem slcO3 {j k : Int} : slcO 3 [x, .int j, .int k] = slcD x (some j) (some k) := (rfl)
@[simp] theorem slcD_lst {l : List D} {lo hi : Option Int} : slcD (.lst l) lo hi = some (.lst (cutL l lo hi), true) := (rfl)
@[simp] theorem slcD_tup {l : List D} {lo hi : Option Int} : slcD (.tup l) lo hi = some (.tup (cutL l lo hi), false) := (rfl)
@[simp] theorem cmpO_eq {op : CmpOp} : cmpO op s [x, y] = (der s x).bind fun x => (der s y).bind fun y => cmpD op x y := (rfl)
@[simp] theorem cmp_lt {p q : Int} : cmpD .Lt (.int p) (.int q) = some (decide (p < q)) := (rfl)
@[simp] theorem cmp_le {p q : Int} : cmpD .LtE (.int p) (.int q) = some (decide (p ≤ q)) := (rfl)
@[simp] theorem cmp_gt {p q : Int} : cmpD .Gt (.int p) (.int q) = some (decide (q < p)) := (rfl)
@[simp] theorem cmp_ge {p q : Int} : cmpD .GtE (.int p) (.int q) = some (decide (q ≤ p)) := (rfl)
@[simp] theorem fine_int {k : Nat} {p : Int} : (D.int p).fine k = true := by cases k <;> simp [D.fine]
@[simp] theorem fine_bool {k : Nat} {p : Bool} : (D.bool p).fine k = true := by cases k <;> simp [D.fine]
@[simp] theorem fine_none {k : Nat} : (D.none).fine k = true := by cases k <;> simp [D.fine]
@[simp] theorem fine_str {k : Nat} {p : Str} : (D.str p).fine k = p.cps.all (· < 0x110000) := by cases k <;> simp [D.fine]
@[simp] theorem cmp_eq {p q : Int} : cmpD .Eq (.int p) (.int q) = some (decide (p = q)) := by simp [cmpD, eqD, D.eqv]
@[simp] theorem cmp_ne {p q : Int} : cmpD .NotEq (.int p) (.int q) = some (!decide (p = q)) := by simp [cmpD, eqD, D.eqv]
@[simp] theorem cmp_eqb {p q : Bool} : cmpD .Eq (.bool p) (.bool q) = some (p == q) := by simp [cmpD, eqD, D.eqv]
@[simp] theorem cmp_neb {p q : Bool} : cmpD .NotEq (.bool p) (.bool q) = some (!(p == q)) := by simp [cmpD, eqD, D.eqv]
theorem ofString_inj {a b : String} : Str.ofString a = Str.ofString b ↔ a = b := by
  constructor
  · intro h
    rw [Str.ofString_eq_toList, Str.ofString_eq_toList] at h
    injection h with h
    have h : a.toList.map Char.toNat = b.toList.map Char.toNat := by simpa using h
    have inj : ∀ l m : List Char, l.map Char.toNat = m.map Char.toNat → l = m := by
      intro l
      induction l with
      | nil => intro m q; cases m <;> simp_all
      | cons x l ih =>
        intro m q
        cases m with
        | nil => simp at q
        | cons y m =>
          simp only [List.map_cons, List.cons.injEq] at q
          rw [Char.toNat_inj.mp q.1, ih m q.2]
    exact String.toList_injective (inj _ _ h)
  · rintro rfl; rfl
theorem ofString_fine {a : String} : (Str.ofString a).cps.all (· < 0x110000) = true := by
  rw [Str.ofString_eq_toList]
  simp only [List.size_toArray, List.length_map, List.all_toArray', List.all_map, List.all_eq_true, Function.comp]
  intro c _
  have := c.valid
  simp only [decide_eq_true_eq]
  have h : c.toNat < 0x110000 := by
    rcases this with h | ⟨_, h⟩
    · exact Nat.lt_trans h (by decide)
    · exact h
  exact h
@[simp] theorem cmp_eqs {a b : String} : cmpD .Eq (.str (Str.ofString a)) (.str (Str.ofString b)) = some (decide (a = b)) := by
  simp only [cmpD, eqD, D.eqv, fine_str, ofString_fine, Bool.and_self, if_true, ofString_inj]
@[simp] theorem cmp_nes {a b : String} : cmpD .NotEq (.str (Str.ofString a)) (.str (Str.ofString b)) = some (!decide (a = b)) := by
  simp only [cmpD, eqD, D.eqv, fine_str, ofString_fine, Bool.and_self, if_true, ofString_inj, Option.map_some]
@[simp] theorem cmp_is : cmpD .Is x .none = some x.isN := (rfl)
@[simp] theorem cmp_isn : cmpD .IsNot x .none = some (!x.isN) := (rfl)
@[simp] theorem isN_none : D.isN .none = true := (rfl)
@[simp] theorem isN_int {j : Int} : D.isN (.int j) = false := (rfl)
@[simp] theorem isN_str {j : Str} : D.isN (.str j) = false := (rfl)
@[simp] theorem isN_tup {j : List D} : D.isN (.tup j) = false := (rfl)
@[simp] theorem isN_lst {j : List D} : D.isN (.lst j) = false := (rfl)
@[simp] theorem blt_len {l : List D} : bltD (Str.ofString "len") [.lst l] = some (.int l.length, false) := (rfl)
@[simp] theorem blt_lent {l : List D} : bltD (Str.ofString "len") [.tup l] = some (.int l.length, false) := (rfl)
@[simp] theorem blt_lens {l : Str} : bltD (Str.ofString "len") [.str l] = if l.length ≤ sizeMax then some (.int l.length, false) else none := (rfl)
def absI (j : Int) : Int := if j < 0 then -j else j
theorem absI_nn (j : Int) : 0 ≤ absI j := by unfold absI; split <;> omega
theorem absI_pos {j : Int} (h : j ≠ 0) : 0 < absI j := by unfold absI; split <;> omega
@[simp] theorem blt_abs {j : Int} : bltD (Str.ofString "abs") [.int j] = some (.int (absI j), false) := (rfl)
@[simp] theorem blt_int {j : Int} : bltD (Str.ofString "int") [.int j] = some (.int j, false) := (rfl)
@[simp] theorem blt_list {l : List D} : bltD (Str.ofString "list") [.lst l] = some (.lst l, true) := (rfl)
@[simp] theorem blt_listt {l : List D} : bltD (Str.ofString "list") [.tup l] = some (.lst l, true) := (rfl)
@[simp] theorem blt_tuple {l : List D} : bltD (Str.ofString "tuple") [.lst l] = some (.tup l, false) := (rfl)
@[simp] theorem blt_tuplet {l : List D} : bltD (Str.ofString "tuple") [.tup l] = some (.tup l, false) := (rfl)
@[simp] theorem blt_max {j k : Int} : bltD (Str.ofString "max") [.int j, .int k] = some (.int (if k > j then k else j), false) := (rfl)
@[simp] theorem blt_min {j k : Int} : bltD (Str.ofString "min") [.int j, .int k] = some (.int (if k < j then k else j), false) := (rfl)
@[simp] theorem blt_isi {j : Int} : bltD (Str.ofString "isinstance") [.int j, .ty "int"] = some (.bool true, false) := (rfl)
@[simp] theorem blt_isb {j : Int} : bltD (Str.ofString "isinstance") [.int j, .ty "bool"] = some (.bool false, false) := (rfl)
@[simp] theorem blt_iss {j : Int} : bltD (Str.ofString "isinstance") [.int j, .ty "str"] = some (.bool false, false) := (rfl)
@[simp] theorem blt_isbb {j : Bool} : bltD (Str.ofString "isinstance") [.bool j, .ty "bool"] = some (.bool true, false) := (rfl)
@[simp] theorem blt_isbi {j : Bool} : bltD (Str.ofString "isinstance") [.bool j, .ty "int"] = some (.bool true, false) := (rfl)
@[simp] theorem blt_isss {j : Str} : bltD (Str.ofString "isinstance") [.str j, .ty "str"] = some (.bool true, false) := (rfl)
@[simp] theorem blt_istt {j : List D} : bltD (Str.ofString "isinstance") [.tup j, .ty "tuple"] = some (.bool true, false) := (rfl)
@[simp] theorem blt_isll {j : List D} : bltD (Str.ofString "isinstance") [.lst j, .ty "list"] = some (.bool true, false) := (rfl)
@[simp] theorem chg_app0 {l : List D} : chgD (Str.ofString "append") (.lst l) [x] = if l.length < sizeMax then some (.none, .lst (l ++ [x])) else none := (rfl)
@[simp] theorem chg_pop0 {l : List D} : chgD (Str.ofString "pop") (.lst l) [] = (l[l.length - 1]?).map fun y => (y, .lst l.dropLast) := (rfl)
@[simp] theorem setD_eq {l : List D} {k : Int} : setD (.lst l) (.int k) x = (L2.ixN l.length k).map fun j => .lst (l.set j x) := (rfl)
@[simp] theorem chgO_loc {f : D → Option (D × D)} : chgO f (.loc n) e s = match (s[n]?).bind f with
    | some (r, x') => .ok (r, false) e (s.set n x')
    | none => .no := rfl
@[simp] theorem chgS_eq {f : D → Option (D × D)} : chgS f i e s = match e[i]? with
  | some (.ow x) => match f x with
    | some (r, x') => .ok (r, false) (e.set i (.ow x')) s
    | none => .no
  | some (.fr (.loc n)) => match (s[n]?).bind f with
    | some (r, x') => .ok (r, false) e (s.set n x')
    | none => .no
  | _ => .no := rfl
@[simp] theorem itemsD_lst {l : List D} : itemsD (.lst l) = some l := (rfl)
@[simp] theorem itemsD_tup {l : List D} : itemsD (.tup l) = some l := (rfl)
theorem atI_nat {α : Type} {l : List α} {j : Int} (h : 0 ≤ j) : L2.atI l j = l[j.toNat]? := by
  unfold L2.atI L2.ixN
  rw [if_pos h]
  by_cases hl : j < l.length
  · rw [if_pos hl]; rfl
  · rw [if_neg hl, List.getElem?_eq_none (by omega)]; rfl
theorem ixN_nat {k : Nat} {j : Int} (h : 0 ≤ j) (hl : j < k) : L2.ixN k j = some j.toNat := by
  unfold L2.ixN
  rw [if_pos h, if_pos hl]
end
/-- what a def's flow gives -/
def outD : R O → Option (Rv × Sto)
  | .ok .nx _ s => some (.rt .none false, s)
  | .ok (.rt x w) _ s => some (.rt x w, s)
  | .ex x _ s => some (.rx x, s)
  | _ => none
theorem runD_out {B : Tab} {G : Glb} {d : Df} {ds : List D} {s : Sto} (h : ds.length = d.np) (h2 : d.np ≤ d.ns) : runD B G d ds s = outD (xL B G d.body (ds.map Sl.fr ++ List.replicate (d.ns - d.np) Sl.un) s) := by
  unfold runD
  rw [if_pos ⟨h, h2⟩]
  rfl
@[simp] theorem out_nx {e : En} {s : Sto} : outD (.ok .nx e s) = some (.rt .none false, s) := (rfl)
@[simp] theorem out_rt {x : D} {w : Bool} {e : En} {s : Sto} : outD (.ok (.rt x w) e s) = some (.rt x w, s) := (rfl)
@[simp] theorem out_ex {x : Xc} {e : En} {s : Sto} : outD (.ex x e s) = some (.rx x, s) := (rfl)
/-! ## the pool of digits, as every law has it -/
def pl (ns : List Int) (i v c : Int) : D := .lst [.lst (ns.map D.int), .int i, .int v, .int c]
def df_pool : Df := ⟨1, 1, (.cons (.ret (.lst true (.cons (.blt "list" (.cons (.slc 2 (.cons (.var 0) (.cons (.int 63) .nil))) .nil)) (.cons (.int 0) (.cons (.int 0) (.cons (.int 11) .nil)))))) .nil)⟩
def dr_c : E := (.and (.cons (.cmp .Eq (.cons (.sub (.cons (.var 0) (.cons (.int 2) .nil))) (.cons (.int 0) .nil))) (.cons (.cmp .Lt (.cons (.sub (.cons (.var 0) (.cons (.int 1) .nil))) (.cons (.blt "len" (.cons (.sub (.cons (.var 0) (.cons (.int 0) .nil))) .nil)) .nil))) .nil)))
def dr_b : Ss := (.cons (.set (.sbv 0 (.int 2)) (.blt "abs" (.cons (.sub (.cons (.sub (.cons (.var 0) (.cons (.int 0) .nil))) (.cons (.sub (.cons (.var 0) (.cons (.int 1) .nil))) .nil))) .nil))) (.cons (.set (.sbv 0 (.int 1)) (.bin .Add (.cons (.sub (.cons (.var 0) (.cons (.int 1) .nil))) (.cons (.int 1) .nil)))) .nil))
def dr_r : Ss := (.cons (.ifs (.cmp .Eq (.cons (.sub (.cons (.var 0) (.cons (.int 2) .nil))) (.cons (.int 0) .nil))) (.cons (.set (.sbv 0 (.int 3)) (.bin .Add (.cons (.sub (.cons (.var 0) (.cons (.int 3) .nil))) (.cons (.int 7) .nil)))) (.cons (.ret (.bin .Mod (.cons (.blt "int" (.cons (.bin .FloorDiv (.cons (.sub (.cons (.var 0) (.cons (.int 3) .nil))) (.cons (.int 3) .nil))) .nil)) (.cons (.var 1) .nil)))) .nil)) .nil) (.cons (.set (.nm 2) (.bin .Mod (.cons (.blt "int" (.cons (.sub (.cons (.var 0) (.cons (.int 2) .nil))) .nil)) (.cons (.var 1) .nil)))) (.cons (.set (.sbv 0 (.int 2)) (.bin .FloorDiv (.cons (.blt "int" (.cons (.sub (.cons (.var 0) (.cons (.int 2) .nil))) .nil)) (.cons (.var 1) .nil)))) (.cons (.ret (.var 2)) .nil))))
def df_draw : Df := ⟨2, 3, .cons (.whl dr_c dr_b) dr_r⟩
section
variable {B : Tab} {G : Glb} {s : Sto} {n : Nat} {ns : List Int} {i v c m : Int}
theorem pool_eq (h : ns.length ≤ 63) : runD B G df_pool [.lst (ns.map D.int)] s = some (.rt (.loc s.length) false, s ++ [pl ns 0 0 11]) := by
  have hc : cutL (ns.map D.int) none (some 63) = ns.map D.int := by
    have e1 : HT.sIx (ns.map D.int).length 0 none = 0 := rfl
    have e2 : HT.sIx (ns.map D.int).length (ns.map D.int).length (some 63) = ns.length := by
      have := HT.sIx_nat (ns.map D.int).length (ns.map D.int).length 63
      rw [show ((63 : Nat) : Int) = 63 from rfl] at this
      rw [this, List.length_map]; omega
    unfold cutL
    rw [e1, e2, List.drop_zero, Nat.sub_zero]
    exact List.take_of_length_le (by simp)
  simp [runD, df_pool, hc, sizeMax, pl]
theorem at0 {a b c d : D} : L2.atI [a, b, c, d] 0 = some a := rfl
theorem at1 {a b c d : D} : L2.atI [a, b, c, d] 1 = some b := rfl
theorem at2 {a b c d : D} : L2.atI [a, b, c, d] 2 = some c := rfl
theorem at3 {a b c d : D} : L2.atI [a, b, c, d] 3 = some d := rfl
theorem ix41 : L2.ixN 4 1 = some 1 := rfl
theorem ix42 : L2.ixN 4 2 = some 2 := rfl
theorem ix43 : L2.ixN 4 3 = some 3 := rfl
theorem draw_c (h : s[n]? = some (pl ns i v c)) : evB B G dr_c [.fr (.loc n), .fr (.int m), .un] s = .ok (decide (v = 0) && decide (i < ns.length)) [.fr (.loc n), .fr (.int m), .un] s := by
  by_cases hv : v = 0 <;> simp [dr_c, h, pl, at0, at1, at2, hv]
theorem draw_b (h : s[n]? = some (pl ns i v c)) (hi : 0 ≤ i) {y : Int} (hy : ns[i.toNat]? = some y) : xL B G dr_b [.fr (.loc n), .fr (.int m), .un] s = .ok .nx [.fr (.loc n), .fr (.int m), .un] (s.set n (pl ns (i + 1) (absI y) c)) := by
  obtain ⟨hn, hg⟩ := List.getElem?_eq_some_iff.mp h
  simp [dr_b, hg, pl, at0, at1, at2, ix41, ix42, atI_nat hi, hy, hn]
theorem draw_w : ∀ (f : Nat) (i v c : Int) (s : Sto), s[n]? = some (pl ns i v c) → 0 ≤ i → 0 ≤ v → ns.length - i.toNat < f → ∃ i' v', 0 ≤ i' ∧ 0 ≤ v' ∧
    whlL (cndW B G dr_c) (bodW B G dr_b) f [.fr (.loc n), .fr (.int m), .un] s = .ok .nx [.fr (.loc n), .fr (.int m), .un] (s.set n (pl ns i' v' c))
  | 0, i, v, c, s, h, hi, hv, hf => by omega
  | f + 1, i, v, c, s, h, hi, hv, hf => by
    rw [whlL_succ]
    show ∃ i' v', 0 ≤ i' ∧ 0 ≤ v' ∧ R.bind (evB B G dr_c _ s) _ = _
    rw [draw_c h, R.bind_ok, kWc_eq]
    have hn : n < s.length := (List.getElem?_eq_some_iff.mp h).1
    have hse : s.set n (pl ns i v c) = s := by
      obtain ⟨_, e⟩ := List.getElem?_eq_some_iff.mp h
      rw [← e, List.set_getElem_self]
    by_cases hc : v = 0 ∧ i < ns.length
    · rw [if_pos (by simp [hc])]
      have hl : i.toNat < ns.length := by omega
      have e := draw_b (B := B) (G := G) (m := m) h hi (List.getElem?_eq_getElem hl)
      rw [show bodW B G dr_b [.fr (.loc n), .fr (.int m), .un] s = _ from e, R.bind_ok, kWb_nx]
      obtain ⟨i', v', h1, h2, h3⟩ := draw_w f (i + 1) _ c (s.set n (pl ns (i + 1) (absI ns[i.toNat]) c)) (List.getElem?_set_self hn) (by omega) (absI_nn _) (by omega)
      refine ⟨i', v', h1, h2, ?_⟩
      rw [List.set_set] at h3
      exact h3
    · rw [if_neg (by simpa using hc)]
      exact ⟨i, v, hi, hv, by rw [hse]⟩
/-- a digit -/
theorem draw_eq (h : s[n]? = some (pl ns i v c)) (hi : 0 ≤ i) (hv : 0 ≤ v) (hc : 0 ≤ c) (hl : ns.length ≤ 63) (hm : 0 < m) (hm2 : m < wideI) : ∃ r i' v' c', runD B G df_draw [.loc n, .int m] s = some (.rt (.int r) false, s.set n (pl ns i' v' c')) ∧ 0 ≤ i' ∧ 0 ≤ v' ∧ 0 ≤ c' ∧ 0 ≤ r ∧ r < m := by
  obtain ⟨i', v', h1, h2, h3⟩ := draw_w (B := B) (G := G) (m := m) fuel i v c s h hi hv (by unfold fuel; omega)
  have hn : n < s.length := (List.getElem?_eq_some_iff.mp h).1
  have e : runD B G df_draw [.loc n, .int m] s = outD (xL B G dr_r [.fr (.loc n), .fr (.int m), .un] (s.set n (pl ns i' v' c))) := by
    rw [runD_out (by rfl) (by decide)]
    show outD (xL B G (.cons (.whl dr_c dr_b) dr_r) [.fr (.loc n), .fr (.int m), .un] s) = _
    rw [xL_cons, xS_whl, h3]
    rfl
  rw [e]
  have hw : (3 : Int) < wideI := by decide
  by_cases hz : v' = 0
  · refine ⟨(c + 7) / 3 % m, i', v', c + 7, ?_, h1, h2, by omega, Int.emod_nonneg _ (by omega), Int.emod_lt_of_pos _ hm⟩
    simp [dr_r, hn, pl, at2, at3, ix43, hz, hm, hw]
  · refine ⟨v' % m, i', v' / m, c, ?_, h1, Int.ediv_nonneg h2 (by omega), hc, Int.emod_nonneg _ (by omega), Int.emod_lt_of_pos _ hm⟩
    simp [dr_r, hn, pl, at2, at3, ix42, hz, hm, hm2]
end
end Pv
namespace Pv
/-- the pool in the n-th place of the store; all else as in s -/
def PA (n : Nat) (ns : List Int) (s s' : Sto) : Prop := n < s.length ∧ ns.length ≤ 63 ∧ ∃ i v c, 0 ≤ i ∧ 0 ≤ v ∧ 0 ≤ c ∧ s' = s.set n (pl ns i v c)
section
variable {B : Tab} {G : Glb} {s s' : Sto} {n : Nat} {ns : List Int} {m : Int}
theorem draw_pa (h : PA n ns s s') (hm : 0 < m) (hm2 : m < wideI) : ∃ r s2, runD B G df_draw [.loc n, .int m] s' = some (.rt (.int r) false, s2) ∧ PA n ns s s2 ∧ 0 ≤ r ∧ r < m := by
  obtain ⟨h1, h2, i, v, c, hi, hv, hc, rfl⟩ := h
  obtain ⟨r, i', v', c', e, a1, a2, a3, a4, a5⟩ := draw_eq (B := B) (G := G) (List.getElem?_set_self h1) hi hv hc h2 hm hm2
  exact ⟨r, _, e, ⟨h1, h2, i', v', c', a1, a2, a3, by rw [List.set_set]⟩, a4, a5⟩
theorem PA.new (h : ns.length ≤ 63) : PA s.length ns (s ++ [pl ns 0 0 11]) (s ++ [pl ns 0 0 11]) :=
  ⟨by simp, h, 0, 0, 11, by decide, by decide, by decide, by simp⟩
theorem PA.len (h : PA n ns s s') : s'.length = s.length := by
  obtain ⟨_, _, _, _, _, _, _, _, rfl⟩ := h
  simp
end
end Pv
namespace Pv
open PySem (Str Operator CmpOp)
/-! ## a drawn word, as the first laws have it -/
def df_word : Df := ⟨1, 3, (.cons (.set (.nm 1) (.call false "_law_draw" (.cons (.var 0) (.cons (.int 4) .nil)))) (.cons (.ifs (.cmp .Lt (.cons (.var 1) (.cons (.int 2) .nil))) (.cons (.ret (.bin .Sub (.cons (.call false "_law_draw" (.cons (.var 0) (.cons (.int 12) .nil))) (.cons (.int 4) .nil)))) .nil) .nil) (.cons (.set (.nm 2) (.lst false (.cons (.neg (.int 2147483648)) (.cons (.neg (.int 2147483647)) (.cons (.neg (.int 2049)) (.cons (.neg (.int 2048)) (.cons (.neg (.int 1)) (.cons (.int 0) (.cons (.int 1) (.cons (.int 31) (.cons (.int 32) (.cons (.int 33) (.cons (.int 2047) (.cons (.int 2048) (.cons (.int 4095) (.cons (.int 2147483647) .nil)))))))))))))))) (.cons (.ifs (.cmp .Eq (.cons (.var 1) (.cons (.int 2) .nil))) (.cons (.ret (.sub (.cons (.var 2) (.cons (.call false "_law_draw" (.cons (.var 0) (.cons (.int 14) .nil))) .nil)))) .nil) .nil) (.cons (.ret (.bin .Sub (.cons (.call false "_law_draw" (.cons (.var 0) (.cons (.int 4294967296) .nil))) (.cons (.int 2147483648) .nil)))) .nil)))))⟩
theorem at_ints {L : List Int} {j : Int} (h : 0 ≤ j) (hl : j < L.length) : ∃ x ∈ L, L2.atI (L.map D.int) j = some (.int x) := by
  have : j.toNat < L.length := by omega
  refine ⟨L[j.toNat], List.getElem_mem this, ?_⟩
  rw [atI_nat h, List.getElem?_map, List.getElem?_eq_getElem this]
  rfl
theorem small_w {m : Int} (h : m ≤ 1000000000000000000000000000000) : m < wideI := by unfold wideI; omega
section
variable {B B' : Tab} {G G' : Glb} {s s' : Sto} {n : Nat} {ns : List Int}
theorem word_pa (hB : B "_law_draw" = runD B' G' df_draw) (h : PA n ns s s') : ∃ r s2, runD B G df_word [.loc n] s' = some (.rt (.int r) false, s2) ∧ PA n ns s s2 ∧ -2147483648 ≤ r ∧ r ≤ 2147483647 := by
  obtain ⟨kind, s1, e1, p1, a1, b1⟩ := draw_pa (B := B') (G := G') h (m := 4) (by decide) (small_w (by decide))
  rw [← hB] at e1
  by_cases c0 : kind < 2
  · obtain ⟨r, s2, e2, p2, a2, b2⟩ := draw_pa (B := B') (G := G') p1 (m := 12) (by decide) (small_w (by decide))
    rw [← hB] at e2
    exact ⟨r - 4, s2, by rw [runD_out rfl (by decide)]; simp [df_word, e1, e2, c0], p2, by omega, by omega⟩
  by_cases c2 : kind = 2
  · obtain ⟨r, s2, e2, p2, a2, b2⟩ := draw_pa (B := B') (G := G') p1 (m := 14) (by decide) (small_w (by decide))
    rw [← hB] at e2
    obtain ⟨x, hx, ex⟩ := at_ints (L := [-2147483648, -2147483647, -2049, -2048, -1, 0, 1, 31, 32, 33, 2047, 2048, 4095, 2147483647]) a2 b2
    have hb := (by decide : ∀ x ∈ [-2147483648, -2147483647, -2049, -2048, -1, 0, 1, 31, 32, 33, 2047, 2048, 4095, (2147483647 : Int)], -2147483648 ≤ x ∧ x ≤ 2147483647) x hx
    simp at ex
    exact ⟨x, s2, by rw [runD_out rfl (by decide)]; simp [df_word, e1, e2, c2, ex, sizeMax], p2, hb.1, hb.2⟩
  · obtain ⟨r, s2, e2, p2, a2, b2⟩ := draw_pa (B := B') (G := G') p1 (m := 4294967296) (by decide) (small_w (by decide))
    rw [← hB] at e2
    exact ⟨r - 2147483648, s2, by rw [runD_out rfl (by decide)]; simp [df_word, e1, e2, c0, c2, sizeMax], p2, by omega, by omega⟩
end
end Pv
namespace Pv
open PySem PySem.W PyProof.Rows
/-! ## bits -/
theorem and_half (x y : Int) : Builtin.bitAnd x y / 2 = Builtin.bitAnd (x / 2) (y / 2) := by
  have := kbt_halves x y
  split at this <;> omega
theorem and_low (x y : Int) : Builtin.bitAnd x y % 2 = if x % 2 = 1 ∧ y % 2 = 1 then 1 else 0 := by
  have := kbt_halves x y
  split at this <;> omega
theorem or_half (x y : Int) : Builtin.bitOr x y / 2 = Builtin.bitOr (x / 2) (y / 2) := by
  have h := kbt_halves x y
  have e1 := bitOr_and x y
  have e2 := bitOr_and (x / 2) (y / 2)
  split at h <;> omega
theorem or_lowb (x y : Int) : Builtin.bitOr x y % 2 = if x % 2 = 1 ∨ y % 2 = 1 then 1 else 0 := by
  have h := kbt_halves x y
  have e1 := bitOr_and x y
  split at h <;> split <;> omega
theorem xor_half (x y : Int) : Builtin.bitXor x y / 2 = Builtin.bitXor (x / 2) (y / 2) := by
  have h := kbt_halves x y
  have e1 := bitXor_and x y
  have e2 := bitXor_and (x / 2) (y / 2)
  split at h <;> omega
theorem xor_low (x y : Int) : Builtin.bitXor x y % 2 = (x % 2 + y % 2) % 2 := by
  have h := kbt_halves x y
  have e1 := bitXor_and x y
  split at h <;> omega
theorem bits_in {f : Int → Int → Int} (h : ∀ x y, f x y / 2 = f (x / 2) (y / 2)) (h0 : ∀ x y, (x = -1 ∨ x = 0) → (y = -1 ∨ y = 0) → f x y = -1 ∨ f x y = 0) : ∀ (k : Nat) (x y : Int), -(2 ^ k : Int) ≤ x → x < 2 ^ k → -(2 ^ k : Int) ≤ y → y < 2 ^ k → -(2 ^ k : Int) ≤ f x y ∧ f x y < 2 ^ k
  | 0, x, y, a, b, c, d => by
    have := h0 x y (by simp at a b; omega) (by simp at c d; omega)
    simp; omega
  | k + 1, x, y, a, b, c, d => by
    rw [Int.pow_succ] at *
    have := bits_in h h0 k (x / 2) (y / 2) (by omega) (by omega) (by omega) (by omega)
    have := h x y
    omega
theorem and_word {x y : Int} (a : -2147483648 ≤ x) (b : x ≤ 2147483647) (c : -2147483648 ≤ y) (d : y ≤ 2147483647) : -2147483648 ≤ Builtin.bitAnd x y ∧ Builtin.bitAnd x y ≤ 2147483647 := by
  have := bits_in and_half (by rintro x y (rfl | rfl) (rfl | rfl) <;> decide) 31 x y (by omega) (by omega) (by omega) (by omega)
  omega
theorem or_word {x y : Int} (a : -2147483648 ≤ x) (b : x ≤ 2147483647) (c : -2147483648 ≤ y) (d : y ≤ 2147483647) : -2147483648 ≤ Builtin.bitOr x y ∧ Builtin.bitOr x y ≤ 2147483647 := by
  have := bits_in or_half (by rintro x y (rfl | rfl) (rfl | rfl) <;> decide) 31 x y (by omega) (by omega) (by omega) (by omega)
  omega
theorem xor_word {x y : Int} (a : -2147483648 ≤ x) (b : x ≤ 2147483647) (c : -2147483648 ≤ y) (d : y ≤ 2147483647) : -2147483648 ≤ Builtin.bitXor x y ∧ Builtin.bitXor x y ≤ 2147483647 := by
  have := bits_in xor_half (by rintro x y (rfl | rfl) (rfl | rfl) <;> decide) 31 x y (by omega) (by omega) (by omega) (by omega)
  omega
theorem sar_word {x : Int} {k : Nat} (a : -2147483648 ≤ x) (b : x ≤ 2147483647) : -2147483648 ≤ x / 2 ^ k ∧ x / 2 ^ k ≤ 2147483647 := by
  have hp : (0 : Int) < 2 ^ k := Int.pow_pos (by decide)
  refine ⟨(Int.le_ediv_iff_mul_le hp).mpr ?_, ?_⟩
  · have : (1 : Int) ≤ 2 ^ k := hp
    have : -2147483648 * (2 : Int) ^ k ≤ -2147483648 * 1 := Int.mul_le_mul_of_nonpos_left (by decide) this
    omega
  · by_cases hx : 0 ≤ x
    · exact Int.le_trans (Int.ediv_le_self _ hx) b
    · have : x / 2 ^ k < 0 := Int.ediv_neg_of_neg_of_pos (by omega) hp
      omega
end Pv
namespace Lk02
open PySem PySem.Spec PyProof.Rows L2 Pv
def top (i : Nat) : Stmt := PySem.Challenge.pw_sameruns_k02_bits.main.body.getD i (.Pass ⟨0, 0, 0, 0⟩)
/-- wrap(n): 0=n -/
abbrev sx_wrap : Stmt := top 1
def ns_wrap : List Str := ["n"]
def df_wrap : Df := ⟨1, 1, (.cons (.ret (.bin .Sub (.cons (.bin .Mod (.cons (.bin .Add (.cons (.var 0) (.cons (.int 2147483648) .nil))) (.cons (.int 4294967296) .nil))) (.cons (.int 2147483648) .nil)))) .nil)⟩
/-- cut_quotient(a, b): 0=a 1=b 2=quotient -/
abbrev sx_cut_quotient : Stmt := top 3
def ns_cut_quotient : List Str := ["a", "b", "quotient"]
def df_cut_quotient : Df := ⟨2, 3, (.cons (.set (.nm 2) (.bin .FloorDiv (.cons (.blt "abs" (.cons (.var 0) .nil)) (.cons (.blt "abs" (.cons (.var 1) .nil)) .nil)))) (.cons (.ifs (.cmp .NotEq (.cons (.cmp .Lt (.cons (.var 0) (.cons (.int 0) .nil))) (.cons (.cmp .Lt (.cons (.var 1) (.cons (.int 0) .nil))) .nil))) (.cons (.ret (.neg (.var 2))) .nil) .nil) (.cons (.ret (.var 2)) .nil)))⟩
/-- result(name, a, b): 0=name 1=a 2=b -/
abbrev sx_result : Stmt := top 4
def ns_result : List Str := ["name", "a", "b"]
def df_result : Df := ⟨3, 3, (.cons (.ifs (.cmp .Eq (.cons (.var 0) (.cons (.str "add") .nil))) (.cons (.ret (.call true "wrap" (.cons (.bin .Add (.cons (.var 1) (.cons (.var 2) .nil))) .nil))) .nil) .nil) (.cons (.ifs (.cmp .Eq (.cons (.var 0) (.cons (.str "sub") .nil))) (.cons (.ret (.call true "wrap" (.cons (.bin .Sub (.cons (.var 1) (.cons (.var 2) .nil))) .nil))) .nil) .nil) (.cons (.ifs (.cmp .Eq (.cons (.var 0) (.cons (.str "mul") .nil))) (.cons (.ret (.call true "wrap" (.cons (.bin .Mult (.cons (.var 1) (.cons (.var 2) .nil))) .nil))) .nil) .nil) (.cons (.ifs (.cmp .Eq (.cons (.var 0) (.cons (.str "and") .nil))) (.cons (.ret (.bin .BitAnd (.cons (.var 1) (.cons (.var 2) .nil)))) .nil) .nil) (.cons (.ifs (.cmp .Eq (.cons (.var 0) (.cons (.str "or") .nil))) (.cons (.ret (.bin .BitOr (.cons (.var 1) (.cons (.var 2) .nil)))) .nil) .nil) (.cons (.ifs (.cmp .Eq (.cons (.var 0) (.cons (.str "xor") .nil))) (.cons (.ret (.bin .BitXor (.cons (.var 1) (.cons (.var 2) .nil)))) .nil) .nil) (.cons (.ifs (.cmp .Eq (.cons (.var 0) (.cons (.str "shl") .nil))) (.cons (.ret (.call true "wrap" (.cons (.bin .LShift (.cons (.var 1) (.cons (.bin .Mod (.cons (.var 2) (.cons (.int 32) .nil))) .nil))) .nil))) .nil) .nil) (.cons (.ifs (.cmp .Eq (.cons (.var 0) (.cons (.str "sar") .nil))) (.cons (.ret (.bin .RShift (.cons (.var 1) (.cons (.bin .Mod (.cons (.var 2) (.cons (.int 32) .nil))) .nil)))) .nil) .nil) (.cons (.ifs (.cmp .Eq (.cons (.var 0) (.cons (.str "lt") .nil))) (.cons (.ret (.ite (.cmp .Lt (.cons (.var 1) (.cons (.var 2) .nil))) (.int 1) (.int 0))) .nil) .nil) (.cons (.ifs (.cmp .Eq (.cons (.var 0) (.cons (.str "le") .nil))) (.cons (.ret (.ite (.cmp .LtE (.cons (.var 1) (.cons (.var 2) .nil))) (.int 1) (.int 0))) .nil) .nil) (.cons (.ifs (.cmp .Eq (.cons (.var 0) (.cons (.str "eq") .nil))) (.cons (.ret (.ite (.cmp .Eq (.cons (.var 1) (.cons (.var 2) .nil))) (.int 1) (.int 0))) .nil) .nil) (.cons (.ifs (.cmp .Eq (.cons (.var 0) (.cons (.str "ne") .nil))) (.cons (.ret (.ite (.cmp .NotEq (.cons (.var 1) (.cons (.var 2) .nil))) (.int 1) (.int 0))) .nil) .nil) (.cons (.ifs (.cmp .Eq (.cons (.var 0) (.cons (.str "quo") .nil))) (.cons (.ret (.ite (.cmp .Eq (.cons (.var 2) (.cons (.int 0) .nil))) (.neg (.int 1)) (.call true "wrap" (.cons (.call true "cut_quotient" (.cons (.var 1) (.cons (.var 2) .nil))) .nil)))) .nil) .nil) (.cons (.ret (.ite (.cmp .Eq (.cons (.var 2) (.cons (.int 0) .nil))) (.var 1) (.bin .Sub (.cons (.var 1) (.cons (.bin .Mult (.cons (.var 2) (.cons (.call true "cut_quotient" (.cons (.var 1) (.cons (.var 2) .nil))) .nil))) .nil))))) .nil))))))))))))))⟩
/-- _law_pool(_law_script): 0=_law_script -/
abbrev sx_law_pool : Stmt := top 6
def ns_law_pool : List Str := ["_law_script"]
def df_law_pool : Df := ⟨1, 1, (.cons (.ret (.lst true (.cons (.blt "list" (.cons (.slc 2 (.cons (.var 0) (.cons (.int 63) .nil))) .nil)) (.cons (.int 0) (.cons (.int 0) (.cons (.int 11) .nil)))))) .nil)⟩
/-- _law_draw(_law_pool_here, _law_many): 0=_law_pool_here 1=_law_many 2=_law_digit -/
abbrev sx_law_draw : Stmt := top 7
def ns_law_draw : List Str := ["_law_pool_here", "_law_many", "_law_digit"]
def df_law_draw : Df := ⟨2, 3, (.cons (.whl (.and (.cons (.cmp .Eq (.cons (.sub (.cons (.var 0) (.cons (.int 2) .nil))) (.cons (.int 0) .nil))) (.cons (.cmp .Lt (.cons (.sub (.cons (.var 0) (.cons (.int 1) .nil))) (.cons (.blt "len" (.cons (.sub (.cons (.var 0) (.cons (.int 0) .nil))) .nil)) .nil))) .nil))) (.cons (.set (.sbv 0 (.int 2)) (.blt "abs" (.cons (.sub (.cons (.sub (.cons (.var 0) (.cons (.int 0) .nil))) (.cons (.sub (.cons (.var 0) (.cons (.int 1) .nil))) .nil))) .nil))) (.cons (.set (.sbv 0 (.int 1)) (.bin .Add (.cons (.sub (.cons (.var 0) (.cons (.int 1) .nil))) (.cons (.int 1) .nil)))) .nil))) (.cons (.ifs (.cmp .Eq (.cons (.sub (.cons (.var 0) (.cons (.int 2) .nil))) (.cons (.int 0) .nil))) (.cons (.set (.sbv 0 (.int 3)) (.bin .Add (.cons (.sub (.cons (.var 0) (.cons (.int 3) .nil))) (.cons (.int 7) .nil)))) (.cons (.ret (.bin .Mod (.cons (.blt "int" (.cons (.bin .FloorDiv (.cons (.sub (.cons (.var 0) (.cons (.int 3) .nil))) (.cons (.int 3) .nil))) .nil)) (.cons (.var 1) .nil)))) .nil)) .nil) (.cons (.set (.nm 2) (.bin .Mod (.cons (.blt "int" (.cons (.sub (.cons (.var 0) (.cons (.int 2) .nil))) .nil)) (.cons (.var 1) .nil)))) (.cons (.set (.sbv 0 (.int 2)) (.bin .FloorDiv (.cons (.blt "int" (.cons (.sub (.cons (.var 0) (.cons (.int 2) .nil))) .nil)) (.cons (.var 1) .nil)))) (.cons (.ret (.var 2)) .nil)))))⟩
/-- _law_word(_law_pool_here): 0=_law_pool_here 1=_law_kind 2=_law_edges -/
abbrev sx_law_word : Stmt := top 8
def ns_law_word : List Str := ["_law_pool_here", "_law_kind", "_law_edges"]
def df_law_word : Df := ⟨1, 3, (.cons (.set (.nm 1) (.call false "_law_draw" (.cons (.var 0) (.cons (.int 4) .nil)))) (.cons (.ifs (.cmp .Lt (.cons (.var 1) (.cons (.int 2) .nil))) (.cons (.ret (.bin .Sub (.cons (.call false "_law_draw" (.cons (.var 0) (.cons (.int 12) .nil))) (.cons (.int 4) .nil)))) .nil) .nil) (.cons (.set (.nm 2) (.lst false (.cons (.neg (.int 2147483648)) (.cons (.neg (.int 2147483647)) (.cons (.neg (.int 2049)) (.cons (.neg (.int 2048)) (.cons (.neg (.int 1)) (.cons (.int 0) (.cons (.int 1) (.cons (.int 31) (.cons (.int 32) (.cons (.int 33) (.cons (.int 2047) (.cons (.int 2048) (.cons (.int 4095) (.cons (.int 2147483647) .nil)))))))))))))))) (.cons (.ifs (.cmp .Eq (.cons (.var 1) (.cons (.int 2) .nil))) (.cons (.ret (.sub (.cons (.var 2) (.cons (.call false "_law_draw" (.cons (.var 0) (.cons (.int 14) .nil))) .nil)))) .nil) .nil) (.cons (.ret (.bin .Sub (.cons (.call false "_law_draw" (.cons (.var 0) (.cons (.int 4294967296) .nil))) (.cons (.int 2147483648) .nil)))) .nil)))))⟩
/-- _law_is_word(_law_said): 0=_law_said -/
abbrev sx_law_is_word : Stmt := top 9
def ns_law_is_word : List Str := ["_law_said"]
def df_law_is_word : Df := ⟨1, 1, (.cons (.ifs (.or (.cons (.not (.blt "isinstance" (.cons (.var 0) (.cons (.gl "int") .nil)))) (.cons (.blt "isinstance" (.cons (.var 0) (.cons (.gl "bool") .nil))) .nil))) (.cons (.ret (.bl false)) .nil) .nil) (.cons (.ret (.chn .LtE .LtE (.cons (.neg (.int 2147483648)) (.cons (.var 0) .nil)) (.int 2147483647))) .nil))⟩
/-- _law_bits(_law_x): 0=_law_x 1=_law_out 2=_law_turn -/
abbrev sx_law_bits : Stmt := top 10
def ns_law_bits : List Str := ["_law_x", "_law_out", "_law_turn"]
def lb_law_bits_1 : Ss := (.cons (.exp (.chv "append" 1 (.cons (.bin .Mod (.cons (.blt "int" (.cons (.var 0) .nil)) (.cons (.int 2) .nil))) .nil))) (.cons (.set (.nm 0) (.bin .FloorDiv (.cons (.var 0) (.cons (.int 2) .nil)))) .nil))
def df_law_bits : Df := ⟨1, 3, (.cons (.set (.nm 1) (.lst false .nil)) (.cons (.for_ (.nm 2) (.rg1 (.int 32)) lb_law_bits_1) (.cons (.ret (.var 1)) .nil)))⟩
/-- _law_logic(_law_a, _law_b): 0=_law_a 1=_law_b 2=_law_left 3=_law_right 4=_law_sign 5=_law_due 6=_law_said 7=_law_found 8=_law_k -/
abbrev sx_law_logic : Stmt := top 11
def ns_law_logic : List Str := ["_law_a", "_law_b", "_law_left", "_law_right", "_law_sign", "_law_due", "_law_said", "_law_found", "_law_k"]
def lb_law_logic_1 : Ss := (.cons (.ifs (.cmp .NotEq (.cons (.sub (.cons (.var 7) (.cons (.var 8) .nil))) (.cons (.sub (.cons (.var 5) (.cons (.bin .Add (.cons (.sub (.cons (.var 2) (.cons (.var 8) .nil))) (.cons (.sub (.cons (.var 3) (.cons (.var 8) .nil))) .nil))) .nil))) .nil))) (.cons (.ret (.bl false)) .nil) .nil) .nil)
def lb_law_logic_2 : Ss := (.cons (.set (.nm 6) (.call true "result" (.cons (.var 4) (.cons (.var 0) (.cons (.var 1) .nil))))) (.cons (.ifs (.not (.call true "_law_is_word" (.cons (.var 6) .nil))) (.cons (.ret (.bl false)) .nil) .nil) (.cons (.set (.nm 7) (.call true "_law_bits" (.cons (.var 6) .nil))) (.cons (.for_ (.nm 8) (.rg1 (.int 32)) lb_law_logic_1) .nil))))
def df_law_logic : Df := ⟨2, 9, (.cons (.set (.nm 2) (.call true "_law_bits" (.cons (.var 0) .nil))) (.cons (.set (.nm 3) (.call true "_law_bits" (.cons (.var 1) .nil))) (.cons (.for_ (.tp (.cons (.nm 4) (.cons (.nm 5) .nil))) (.it (.lst false (.cons (.tup (.cons (.str "and") (.cons (.tup (.cons (.int 0) (.cons (.int 0) (.cons (.int 1) .nil)))) .nil))) (.cons (.tup (.cons (.str "or") (.cons (.tup (.cons (.int 0) (.cons (.int 1) (.cons (.int 1) .nil)))) .nil))) (.cons (.tup (.cons (.str "xor") (.cons (.tup (.cons (.int 0) (.cons (.int 1) (.cons (.int 0) .nil)))) .nil))) .nil))))) lb_law_logic_2) (.cons (.ret (.bl true)) .nil))))⟩
/-- _law_shifts(_law_a, _law_b): 0=_law_a 1=_law_b 2=_law_unit 3=_law_turn 4=_law_said -/
abbrev sx_law_shifts : Stmt := top 12
def ns_law_shifts : List Str := ["_law_a", "_law_b", "_law_unit", "_law_turn", "_law_said"]
def lb_law_shifts_1 : Ss := (.cons (.set (.nm 2) (.bin .Mult (.cons (.var 2) (.cons (.int 2) .nil)))) .nil)
def df_law_shifts : Df := ⟨2, 5, (.cons (.set (.nm 2) (.int 1)) (.cons (.for_ (.nm 3) (.rg1 (.bin .Mod (.cons (.blt "int" (.cons (.var 1) .nil)) (.cons (.int 32) .nil)))) lb_law_shifts_1) (.cons (.set (.nm 4) (.call true "result" (.cons (.str "shl") (.cons (.var 0) (.cons (.var 1) .nil))))) (.cons (.ifs (.or (.cons (.not (.call true "_law_is_word" (.cons (.var 4) .nil))) (.cons (.cmp .NotEq (.cons (.bin .Mod (.cons (.blt "int" (.cons (.bin .Sub (.cons (.bin .Mult (.cons (.var 0) (.cons (.var 2) .nil))) (.cons (.var 4) .nil))) .nil)) (.cons (.int 4294967296) .nil))) (.cons (.int 0) .nil))) .nil))) (.cons (.ret (.bl false)) .nil) .nil) (.cons (.set (.nm 4) (.call true "result" (.cons (.str "sar") (.cons (.var 0) (.cons (.var 1) .nil))))) (.cons (.ret (.and (.cons (.call true "_law_is_word" (.cons (.var 4) .nil)) (.cons (.chn .LtE .Lt (.cons (.bin .Mult (.cons (.var 4) (.cons (.var 2) .nil))) (.cons (.var 0) .nil)) (.bin .Add (.cons (.bin .Mult (.cons (.var 4) (.cons (.var 2) .nil))) (.cons (.var 2) .nil)))) .nil)))) .nil))))))⟩
/-- law(_law_script): 0=_law_script 1=_law_pool_here 2=_law_a 3=_law_b 4=_law_pairs 5=_law_left 6=_law_right 7=_law_turns 8=_law_amounts 9=_law_amount -/
abbrev sx_law : Stmt := top 13
def ns_law : List Str := ["_law_script", "_law_pool_here", "_law_a", "_law_b", "_law_pairs", "_law_left", "_law_right", "_law_turns", "_law_amounts", "_law_amount"]
def lb_law_1 : Ss := (.cons (.ifs (.not (.call true "_law_logic" (.cons (.var 5) (.cons (.var 6) .nil)))) (.cons (.ret (.bl false)) .nil) .nil) .nil)
def lb_law_2 : Ss := (.cons (.ifs (.not (.call true "_law_shifts" (.cons (.var 2) (.cons (.var 9) .nil)))) (.cons (.ret (.bl false)) .nil) .nil) .nil)
def df_law : Df := ⟨1, 10, (.cons (.set (.nm 1) (.call false "_law_pool" (.cons (.var 0) .nil))) (.cons (.set (.nm 2) (.call false "_law_word" (.cons (.var 1) .nil))) (.cons (.set (.nm 3) (.call false "_law_word" (.cons (.var 1) .nil))) (.cons (.set (.nm 4) (.lst false (.cons (.tup (.cons (.var 2) (.cons (.var 3) .nil))) (.cons (.tup (.cons (.var 3) (.cons (.var 2) .nil))) (.cons (.tup (.cons (.var 2) (.cons (.var 2) .nil))) (.cons (.tup (.cons (.var 2) (.cons (.neg (.int 1)) .nil))) (.cons (.tup (.cons (.var 2) (.cons (.int 0) .nil))) .nil))))))) (.cons (.for_ (.tp (.cons (.nm 5) (.cons (.nm 6) .nil))) (.it (.bin .Add (.cons (.var 4) (.cons (.lst false (.cons (.tup (.cons (.var 2) (.cons (.var 3) .nil))) .nil)) .nil)))) lb_law_1) (.cons (.set (.nm 7) (.bin .Mod (.cons (.blt "int" (.cons (.var 3) .nil)) (.cons (.int 32) .nil)))) (.cons (.set (.nm 8) (.lst false (.cons (.var 3) (.cons (.var 2) (.cons (.int 0) (.cons (.int 31) (.cons (.var 7) (.cons (.bin .Sub (.cons (.var 7) (.cons (.int 32) .nil))) .nil)))))))) (.cons (.for_ (.nm 9) (.it (.bin .Add (.cons (.var 8) (.cons (.lst false (.cons (.bin .Sub (.cons (.var 7) (.cons (.int 2147483648) .nil))) (.cons (.bin .Add (.cons (.var 7) (.cons (.int 2147483616) .nil))) .nil))) .nil)))) lb_law_2) (.cons (.ret (.call true "_law_shifts" (.cons (.var 3) (.cons (.var 2) .nil)))) .nil)))))))))⟩
def tb : List (Str × Df) := [("wrap", df_wrap), ("cut_quotient", df_cut_quotient), ("result", df_result), ("_law_pool", df_law_pool), ("_law_draw", df_law_draw), ("_law_word", df_law_word), ("_law_is_word", df_law_is_word), ("_law_bits", df_law_bits), ("_law_logic", df_law_logic), ("_law_shifts", df_law_shifts)]
def gl : List (Str × D) := [("bool", .ty "bool"), ("int", .ty "int")]
abbrev GG : Glb := glbOf gl
abbrev TT (k : Nat) : Tab := tab (fun f => tb.lookup f) GG k
end Lk02
namespace Lk02
open PySem PySem.Spec PyProof.Rows L2 Pv
theorem t_draw (k : Nat) : TT (k+1) "_law_draw" = runD (TT k) GG df_draw := rfl
theorem t_pool (k : Nat) : TT (k+1) "_law_pool" = runD (TT k) GG df_pool := rfl
@[simp] theorem gg_int : GG "int" = some (.ty "int") := (rfl)
@[simp] theorem gg_bool : GG "bool" = some (.ty "bool") := (rfl)
theorem word_ (k : Nat) {n : Nat} {ns : List Int} {s s' : Sto} (h : PA n ns s s') : ∃ r s2, TT (k+2) "_law_word" [.loc n] s' = some (.rt (.int r) false, s2) ∧ PA n ns s s2 ∧ -2147483648 ≤ r ∧ r ≤ 2147483647 := word_pa (t_draw k) h
def wr (n : Int) : Int := (n + 2147483648) % 4294967296 - 2147483648
theorem wr_1 (n : Int) : -2147483648 ≤ wr n := by unfold wr; omega
theorem wr_2 (n : Int) : wr n ≤ 2147483647 := by unfold wr; omega
theorem wr_3 (n : Int) : (n - wr n) % 4294967296 = 0 := by unfold wr; omega
@[simp] theorem wrap_ (k : Nat) (n : Int) (s : Sto) : TT (k+1) "wrap" [.int n] s = some (.rt (.int (wr n)) false, s) := by
  rw [show TT (k+1) "wrap" = runD (TT k) GG df_wrap from rfl]
  rw [runD_out rfl (by decide)]; simp [df_wrap, wr]
def cq (a b : Int) : Int := if (decide (a < 0) == decide (b < 0)) = true then absI a / absI b else -(absI a / absI b)
theorem cut_ (k : Nat) (a b : Int) (s : Sto) (h : b ≠ 0) (hb : absI b < wideI) : TT (k+1) "cut_quotient" [.int a, .int b] s = some (.rt (.int (cq a b)) false, s) := by
  rw [show TT (k+1) "cut_quotient" = runD (TT k) GG df_cut_quotient from rfl]
  rw [runD_out rfl (by decide)]
  by_cases ha : a < 0 <;> by_cases hc : b < 0 <;> simp [df_cut_quotient, cq, ha, hc, absI_pos h, hb]
@[simp] theorem is_word (k : Nat) (n : Int) (s : Sto) : TT (k+1) "_law_is_word" [.int n] s = some (.rt (.bool (decide (-2147483648 ≤ n) && decide (n ≤ 2147483647))) false, s) := by
  rw [show TT (k+1) "_law_is_word" = runD (TT k) GG df_law_is_word from rfl]
  rw [runD_out rfl (by decide)]
  by_cases ha : -2147483648 ≤ n <;> simp [df_law_is_word, ha]
theorem t_result (k : Nat) : TT (k+2) "result" = runD (TT (k+1)) GG df_result := rfl
section
variable (k : Nat) (a b : Int) (s : Sto)
theorem r_add : TT (k+2) "result" [.str "add", .int a, .int b] s = some (.rt (.int (wr (a + b))) false, s) := by rw [t_result, runD_out rfl (by decide)]; simp [df_result]
theorem r_sub : TT (k+2) "result" [.str "sub", .int a, .int b] s = some (.rt (.int (wr (a - b))) false, s) := by rw [t_result, runD_out rfl (by decide)]; simp [df_result]
theorem r_mul (h : -litI < a ∧ a < litI) : TT (k+2) "result" [.str "mul", .int a, .int b] s = some (.rt (.int (wr (a * b))) false, s) := by rw [t_result, runD_out rfl (by decide)]; simp [df_result, h]
theorem r_and : TT (k+2) "result" [.str "and", .int a, .int b] s = some (.rt (.int (Builtin.bitAnd a b)) false, s) := by rw [t_result, runD_out rfl (by decide)]; simp [df_result]
theorem r_or : TT (k+2) "result" [.str "or", .int a, .int b] s = some (.rt (.int (Builtin.bitOr a b)) false, s) := by rw [t_result, runD_out rfl (by decide)]; simp [df_result]
theorem r_xor : TT (k+2) "result" [.str "xor", .int a, .int b] s = some (.rt (.int (Builtin.bitXor a b)) false, s) := by rw [t_result, runD_out rfl (by decide)]; simp [df_result]
theorem r_shl (h : -litI < a ∧ a < litI) : TT (k+2) "result" [.str "shl", .int a, .int b] s = some (.rt (.int (wr (a * 2 ^ (b % 32).toNat))) false, s) := by
  rw [t_result, runD_out rfl (by decide)]; simp [df_result, h, show 0 ≤ b % 32 by omega, show b % 32 ≤ 1000000 by omega]
theorem r_sar : TT (k+2) "result" [.str "sar", .int a, .int b] s = some (.rt (.int (a / 2 ^ (b % 32).toNat)) false, s) := by
  rw [t_result, runD_out rfl (by decide)]; simp [df_result, show 0 ≤ b % 32 by omega]
theorem r_lt : TT (k+2) "result" [.str "lt", .int a, .int b] s = some (.rt (.int (if a < b then 1 else 0)) false, s) := by rw [t_result, runD_out rfl (by decide)]; by_cases h : a < b <;> simp [df_result, h]
theorem r_le : TT (k+2) "result" [.str "le", .int a, .int b] s = some (.rt (.int (if a ≤ b then 1 else 0)) false, s) := by rw [t_result, runD_out rfl (by decide)]; by_cases h : a ≤ b <;> simp [df_result, h]
theorem r_eq : TT (k+2) "result" [.str "eq", .int a, .int b] s = some (.rt (.int (if a = b then 1 else 0)) false, s) := by rw [t_result, runD_out rfl (by decide)]; by_cases h : a = b <;> simp [df_result, h]
theorem r_ne : TT (k+2) "result" [.str "ne", .int a, .int b] s = some (.rt (.int (if a = b then 0 else 1)) false, s) := by rw [t_result, runD_out rfl (by decide)]; by_cases h : a = b <;> simp [df_result, h]
theorem quo_ (hb : absI b < wideI) : TT (k+2) "result" [.str "quo", .int a, .int b] s = some (.rt (.int (if b = 0 then -1 else wr (cq a b))) false, s) := by
  rw [t_result, runD_out rfl (by decide)]
  by_cases h0 : b = 0
  · subst h0; simp [df_result]
  · simp [df_result, h0, cut_ _ _ _ _ h0 hb]
theorem mod_ (hb : absI b < wideI) (hl : -litI < b ∧ b < litI) : TT (k+2) "result" [.str "mod", .int a, .int b] s = some (.rt (.int (if b = 0 then a else a - b * cq a b)) false, s) := by
  rw [t_result, runD_out rfl (by decide)]
  by_cases h0 : b = 0
  · subst h0; simp [df_result]
  · simp [df_result, h0, cut_ _ _ _ _ h0 hb, hl]
end
/-- the rest of a cut division lies between the words -/
theorem rest_word {a b : Int} (h : b ≠ 0) (a1 : -2147483648 ≤ a) (a2 : a ≤ 2147483647) : -2147483648 ≤ a - b * cq a b ∧ a - b * cq a b ≤ 2147483647 := by
  have hB := absI_pos h
  have e := Int.mul_ediv_add_emod (absI a) (absI b)
  have r1 := Int.emod_nonneg (absI a) (show absI b ≠ 0 by omega)
  have hA := absI_nn a
  have q1 : 0 ≤ absI b * (absI a / absI b) := Int.mul_nonneg (by omega) (Int.ediv_nonneg hA (by omega))
  have hm : b * cq a b = if a < 0 then -(absI b * (absI a / absI b)) else absI b * (absI a / absI b) := by
    unfold cq
    generalize absI a / absI b = Q
    unfold absI
    by_cases ha : a < 0 <;> by_cases hb : b < 0 <;> simp [ha, hb, Int.mul_neg, Int.neg_mul]
  rw [hm]
  generalize absI b * (absI a / absI b) = P at *
  have hab : absI a = if a < 0 then -a else a := rfl
  split <;> rename_i z <;> simp [z] at hab <;> omega
def bt (x : Int) (i : Nat) : Int := x / 2 ^ i % 2
theorem bt_2 (x : Int) (i : Nat) : bt x i = 0 ∨ bt x i = 1 := by unfold bt; omega
theorem bt_h (x : Int) (i : Nat) : bt x (i + 1) = bt (x / 2) i := by
  unfold bt
  rw [Int.pow_succ, Int.mul_comm, ← Int.ediv_ediv_of_nonneg (by decide)]
theorem bt_and : ∀ (i : Nat) (x y : Int), bt (Builtin.bitAnd x y) i = if bt x i = 1 ∧ bt y i = 1 then 1 else 0
  | 0, x, y => by have := and_low x y; simpa [bt] using this
  | i + 1, x, y => by rw [bt_h, bt_h, bt_h, and_half]; exact bt_and i _ _
theorem bt_or : ∀ (i : Nat) (x y : Int), bt (Builtin.bitOr x y) i = if bt x i = 1 ∨ bt y i = 1 then 1 else 0
  | 0, x, y => by have := or_lowb x y; simpa [bt] using this
  | i + 1, x, y => by rw [bt_h, bt_h, bt_h, or_half]; exact bt_or i _ _
theorem bt_xor : ∀ (i : Nat) (x y : Int), bt (Builtin.bitXor x y) i = (bt x i + bt y i) % 2
  | 0, x, y => by have := xor_low x y; simpa [bt] using this
  | i + 1, x, y => by rw [bt_h, bt_h, bt_h, xor_half]; exact bt_xor i _ _
def bl (n : Nat) (x : Int) : List D := (List.range n).map fun i => D.int (bt x i)
theorem bl_len {n : Nat} {x : Int} : (bl n x).length = n := by simp [bl]
theorem bl_get {n i : Nat} {x : Int} (h : i < n) : (bl n x)[i]? = some (.int (bt x i)) := by
  unfold bl
  rw [List.getElem?_map, List.getElem?_range h]
  rfl
theorem bl_imm {n : Nat} {x : Int} : nolL (bl n x) = true := by
  have : bl n x = ((List.range n).map (bt x)).map D.int := by unfold bl; rw [List.map_map]; rfl
  rw [this]; exact nolL_ints
theorem bits_ (k : Nat) (x : Int) (s : Sto) : TT (k+1) "_law_bits" [.int x] s = some (.rt (.lst (bl 32 x)) false, s) := by
  rw [show TT (k+1) "_law_bits" = runD (TT k) GG df_law_bits from rfl, runD_out rfl (by decide)]
  obtain ⟨e', s', h1, t, rfl, rfl⟩ := forL_range (f := turn (TT k) GG (.nm 2) lb_law_bits_1) (m := 32) (e := [.fr (.int x), .ow (.lst []), .un]) (s := s)
    (fun i e s' => ∃ t, e = [.fr (.int (x / 2 ^ i)), .ow (.lst (bl i x)), t] ∧ s' = s) ⟨.un, by simp [bl], rfl⟩ (by
      rintro i e s' hi ⟨t, rfl, rfl⟩
      have hl : (bl i x).length < sizeMax := by rw [bl_len]; unfold sizeMax; omega
      refine ⟨_, _, ?_, .fr (.int i), rfl, rfl⟩
      have e1 : x / 2 ^ i / 2 = x / 2 ^ (i + 1) := by rw [Int.pow_succ, Int.ediv_ediv_of_nonneg (Int.le_of_lt (Int.pow_pos (by decide)))]
      have e2 : bl i x ++ [D.int (x / 2 ^ i % 2)] = bl (i + 1) x := by unfold bl; rw [List.range_succ, List.map_append]; rfl
      simp [lb_law_bits_1, hl, wideI, e1, e2])
  simp [df_law_bits, small62, sizeMax, h1]
theorem atbl {i : Nat} {x : Int} (h : i < 32) : atI (bl 32 x) (i : Int) = some (.int (bt x i)) := by
  rw [Pv.atI_nat (by omega), Int.toNat_natCast]; exact bl_get h
theorem callP_bl {s s' : Sto} {e : En} {as : List Ar} {x : Int} : callP (some (.rt (.lst (bl 32 x)) false, s')) e as s = .ok (.lst (bl 32 x), false) (fz e as) s := by
  simp [callP, tight, D.imm, bl_imm]
/-- the inner loop -/
theorem inner (k : Nat) {a b c u0 u1 u2 : Int} {op : Str} {q : Sl} {s : Sto} (h : ∀ i : Nat, i < 32 → atI [D.int u0, .int u1, .int u2] (bt a i + bt b i) = some (.int (bt c i))) :
    ∃ q', forL (turn (TT k) GG (.nm 8) lb_law_logic_1) (rangeL 0 32) [.fr (.int a), .fr (.int b), .fr (.lst (bl 32 a)), .fr (.lst (bl 32 b)), .fr (.str op), .fr (.tup [.int u0, .int u1, .int u2]), .fr (.int c), .fr (.lst (bl 32 c)), q] s =
      .ok .nx [.fr (.int a), .fr (.int b), .fr (.lst (bl 32 a)), .fr (.lst (bl 32 b)), .fr (.str op), .fr (.tup [.int u0, .int u1, .int u2]), .fr (.int c), .fr (.lst (bl 32 c)), q'] s := by
  obtain ⟨e', s', h1, t, rfl, rfl⟩ := forL_range (f := turn (TT k) GG (.nm 8) lb_law_logic_1) (m := 32) (e := [.fr (.int a), .fr (.int b), .fr (.lst (bl 32 a)), .fr (.lst (bl 32 b)), .fr (.str op), .fr (.tup [.int u0, .int u1, .int u2]), .fr (.int c), .fr (.lst (bl 32 c)), q]) (s := s)
    (fun i e s' => ∃ t, e = [.fr (.int a), .fr (.int b), .fr (.lst (bl 32 a)), .fr (.lst (bl 32 b)), .fr (.str op), .fr (.tup [.int u0, .int u1, .int u2]), .fr (.int c), .fr (.lst (bl 32 c)), t] ∧ s' = s) ⟨_, rfl, rfl⟩ (by
      rintro i e s' hi ⟨t, rfl, rfl⟩
      have hi : i < 32 := by omega
      refine ⟨_, _, ?_, .fr (.int i), rfl, rfl⟩
      simp [lb_law_logic_1, atbl hi, h i hi])
  exact ⟨t, h1⟩
theorem logic_ (k : Nat) (a b : Int) (s : Sto) (a1 : -2147483648 ≤ a) (a2 : a ≤ 2147483647) (b1 : -2147483648 ≤ b) (b2 : b ≤ 2147483647) : TT (k+3) "_law_logic" [.int a, .int b] s = some (.rt (.bool true) false, s) := by
  rw [show TT (k+3) "_law_logic" = runD (TT (k+2)) GG df_law_logic from rfl, runD_out rfl (by decide)]
  obtain ⟨v1, v2⟩ := and_word a1 a2 b1 b2
  obtain ⟨o1, o2⟩ := or_word a1 a2 b1 b2
  obtain ⟨x1, x2⟩ := xor_word a1 a2 b1 b2
  have i1 : ∀ i : Nat, i < 32 → atI [D.int 0, .int 0, .int 1] (bt a i + bt b i) = some (.int (bt (Builtin.bitAnd a b) i)) := fun i _ => by
    rw [bt_and]; rcases bt_2 a i with p | p <;> rcases bt_2 b i with q | q <;> rw [p, q] <;> rfl
  have i2 : ∀ i : Nat, i < 32 → atI [D.int 0, .int 1, .int 1] (bt a i + bt b i) = some (.int (bt (Builtin.bitOr a b) i)) := fun i _ => by
    rw [bt_or]; rcases bt_2 a i with p | p <;> rcases bt_2 b i with q | q <;> rw [p, q] <;> rfl
  have i3 : ∀ i : Nat, i < 32 → atI [D.int 0, .int 1, .int 0] (bt a i + bt b i) = some (.int (bt (Builtin.bitXor a b) i)) := fun i _ => by
    rw [bt_xor]; rcases bt_2 a i with p | p <;> rcases bt_2 b i with q | q <;> rw [p, q] <;> rfl
  obtain ⟨q1, h1⟩ := inner (k + 2) (op := "and") (q := .un) (s := s) i1
  obtain ⟨q2, h2⟩ := inner (k + 2) (op := "or") (q := q1) (s := s) i2
  obtain ⟨q3, h3⟩ := inner (k + 2) (op := "xor") (q := q2) (s := s) i3
  simp [df_law_logic, lb_law_logic_2, bits_, callP_bl, r_and, r_or, r_xor, v1, v2, o1, o2, x1, x2, sizeMax, small62, h1, h2, h3]
theorem shifts_ (k : Nat) (a b : Int) (s : Sto) (a1 : -2147483648 ≤ a) (a2 : a ≤ 2147483647) : TT (k+3) "_law_shifts" [.int a, .int b] s = some (.rt (.bool true) false, s) := by
  rw [show TT (k+3) "_law_shifts" = runD (TT (k+2)) GG df_law_shifts from rfl, runD_out rfl (by decide)]
  have hl : -litI < a ∧ a < litI := by unfold litI; omega
  have hm : 0 ≤ b % 32 ∧ b % 32 < 32 := by omega
  have l2 : -litI < 2 ∧ (2 : Int) < litI := by decide
  obtain ⟨e', s', h1, t, rfl, rfl⟩ := forL_range (f := turn (TT (k+2)) GG (.nm 3) lb_law_shifts_1) (m := b % 32) (e := [.fr (.int a), .fr (.int b), .fr (.int 1), .un, .un]) (s := s)
    (fun i e s' => ∃ t, e = [.fr (.int a), .fr (.int b), .fr (.int (2 ^ i)), t, .un] ∧ s' = s) ⟨.un, rfl, rfl⟩ (by
      rintro i e s' hi ⟨t, rfl, rfl⟩
      refine ⟨_, _, ?_, .fr (.int i), rfl, rfl⟩
      simp [lb_law_shifts_1, l2, Int.pow_succ])
  have hs : small62 (b % 32) = true := by unfold small62; simp; omega
  generalize hn : (b % 32).toNat = n at *
  have hn32 : n < 32 := by omega
  have hp : (0 : Int) < 2 ^ n := Int.pow_pos (by decide)
  have hp2 : (2 : Int) ^ n < litI := by
    have h1 : 2 ^ n ≤ 2 ^ 31 := Nat.pow_le_pow_right (by decide) (by omega)
    have h2 : ((2 ^ n : Nat) : Int) = 2 ^ n := by simp
    rw [← h2]
    unfold litI
    omega
  have lp : -litI < 2 ^ n ∧ (2 : Int) ^ n < litI := by
    have h0 : (0 : Int) < litI := by decide
    exact ⟨by omega, hp2⟩
  obtain ⟨r1, r2⟩ := sar_word (k := n) a1 a2
  have d1 : a / 2 ^ n * 2 ^ n ≤ a := Int.ediv_mul_le a (by omega)
  have d2 : a < a / 2 ^ n * 2 ^ n + 2 ^ n := by
    have := Int.lt_ediv_add_one_mul_self a hp
    rw [Int.add_mul, Int.one_mul] at this
    exact this
  have rs := r_shl k a b [] hl
  have rr := r_sar k a b []
  rw [hn] at rs rr
  simp [df_law_shifts, hs, h1, rs, rr, wr_1, wr_2, wr_3, hl, lp, r1, r2, d1, d2]
theorem plain : Plain (runD (TT 6) GG df_law) 63 := fun ns hl => by
  obtain ⟨a, s1, e1, p1, a1, a2⟩ := word_ 4 (PA.new (s := []) hl)
  obtain ⟨b, s2, e2, p2, b1, b2⟩ := word_ 4 p1
  refine ⟨s2, ?_⟩
  have e0 := pool_eq (B := TT 5) (G := GG) (s := []) hl
  rw [← t_pool] at e0
  rw [runD_out rfl (by decide)]
  simp at e0 e1 e2
  simp [df_law, lb_law_1, lb_law_2, e0, e1, e2, sizeMax, logic_ 3, shifts_ 3, a1, a2, b1, b2]
end Lk02

namespace Lk02
open PySem PySem.Spec PyProof.Rows L2 Pv
theorem sc_wrap : FnScope ns_wrap ["n"] (defScope sx_wrap) := ⟨rfl, rfl, rfl, by decide +kernel, rfl, by decide +kernel, by decide +kernel⟩
theorem ck_wrap : ckSs (ckOf ns_wrap (tb.map (·.1)) (defScope sx_wrap)) df_wrap.body (defBody sx_wrap) = true := by decide +kernel
theorem sc_cut_quotient : FnScope ns_cut_quotient ["a", "b"] (defScope sx_cut_quotient) := ⟨rfl, rfl, rfl, by decide +kernel, rfl, by decide +kernel, by decide +kernel⟩
theorem ck_cut_quotient : ckSs (ckOf ns_cut_quotient (tb.map (·.1)) (defScope sx_cut_quotient)) df_cut_quotient.body (defBody sx_cut_quotient) = true := by decide +kernel
theorem sc_result : FnScope ns_result ["name", "a", "b"] (defScope sx_result) := ⟨rfl, rfl, rfl, by decide +kernel, rfl, by decide +kernel, by decide +kernel⟩
theorem ck_result : ckSs (ckOf ns_result (tb.map (·.1)) (defScope sx_result)) df_result.body (defBody sx_result) = true := by decide +kernel
theorem sc_law_pool : FnScope ns_law_pool ["_law_script"] (defScope sx_law_pool) := ⟨rfl, rfl, rfl, by decide +kernel, rfl, by decide +kernel, by decide +kernel⟩
theorem ck_law_pool : ckSs (ckOf ns_law_pool (tb.map (·.1)) (defScope sx_law_pool)) df_law_pool.body (defBody sx_law_pool) = true := by decide +kernel
theorem sc_law_draw : FnScope ns_law_draw ["_law_pool_here", "_law_many"] (defScope sx_law_draw) := ⟨rfl, rfl, rfl, by decide +kernel, rfl, by decide +kernel, by decide +kernel⟩
theorem ck_law_draw : ckSs (ckOf ns_law_draw (tb.map (·.1)) (defScope sx_law_draw)) df_law_draw.body (defBody sx_law_draw) = true := by decide +kernel
theorem sc_law_word : FnScope ns_law_word ["_law_pool_here"] (defScope sx_law_word) := ⟨rfl, rfl, rfl, by decide +kernel, rfl, by decide +kernel, by decide +kernel⟩
theorem ck_law_word : ckSs (ckOf ns_law_word (tb.map (·.1)) (defScope sx_law_word)) df_law_word.body (defBody sx_law_word) = true := by decide +kernel
theorem sc_law_is_word : FnScope ns_law_is_word ["_law_said"] (defScope sx_law_is_word) := ⟨rfl, rfl, rfl, by decide +kernel, rfl, by decide +kernel, by decide +kernel⟩
theorem ck_law_is_word : ckSs (ckOf ns_law_is_word (tb.map (·.1)) (defScope sx_law_is_word)) df_law_is_word.body (defBody sx_law_is_word) = true := by decide +kernel
theorem sc_law_bits : FnScope ns_law_bits ["_law_x"] (defScope sx_law_bits) := ⟨rfl, rfl, rfl, by decide +kernel, rfl, by decide +kernel, by decide +kernel⟩
theorem ck_law_bits : ckSs (ckOf ns_law_bits (tb.map (·.1)) (defScope sx_law_bits)) df_law_bits.body (defBody sx_law_bits) = true := by decide +kernel
theorem sc_law_logic : FnScope ns_law_logic ["_law_a", "_law_b"] (defScope sx_law_logic) := ⟨rfl, rfl, rfl, by decide +kernel, rfl, by decide +kernel, by decide +kernel⟩
theorem ck_law_logic : ckSs (ckOf ns_law_logic (tb.map (·.1)) (defScope sx_law_logic)) df_law_logic.body (defBody sx_law_logic) = true := by decide +kernel
theorem sc_law_shifts : FnScope ns_law_shifts ["_law_a", "_law_b"] (defScope sx_law_shifts) := ⟨rfl, rfl, rfl, by decide +kernel, rfl, by decide +kernel, by decide +kernel⟩
theorem ck_law_shifts : ckSs (ckOf ns_law_shifts (tb.map (·.1)) (defScope sx_law_shifts)) df_law_shifts.body (defBody sx_law_shifts) = true := by decide +kernel
theorem sc_law : FnScope ns_law ["_law_script"] (defScope sx_law) := ⟨rfl, rfl, rfl, by decide +kernel, rfl, by decide +kernel, by decide +kernel⟩
theorem ck_law : ckSs (ckOf ns_law (tb.map (·.1)) (defScope sx_law)) df_law.body (defBody sx_law) = true := by decide +kernel
theorem all_mk {l : PySem.W.OpenLaw} {w : World} {K : PySem.W.Frag} {h : Heap} {mg : Str → Option Value} {fa f0 f1 f2 f3 f4 f5 f6 f7 f8 f9 f10 : Addr} (X : K.In h) (G : h.Ns mainGlobals mg) (hfa : mg "law" = some (.ref fa)) (hp : Plain (runD (TT 6) GG df_law) 63)
    {od0 an0 od1 an1 od2 an2 od3 an3 od4 an4 od5 an5 od6 an6 od7 an7 od8 an8 od9 an9 od10 an10 : Option Addr} {sl0 sl1 sl2 sl3 sl4 sl5 sl6 sl7 sl8 sl9 sl10 : Array (Option Value)} {oc0 kV0 dc0 pm0 cd0 ct0 oc1 kV1 dc1 pm1 cd1 ct1 oc2 kV2 dc2 pm2 cd2 ct2 oc3 kV3 dc3 pm3 cd3 ct3 oc4 kV4 dc4 pm4 cd4 ct4 oc5 kV5 dc5 pm5 cd5 ct5 oc6 kV6 dc6 pm6 cd6 ct6 oc7 kV7 dc7 pm7 cd7 ct7 oc8 kV8 dc8 pm8 cd8 ct8 oc9 kV9 dc9 pm9 cd9 ct9 oc10 kV10 dc10 pm10 cd10 ct10 : Value}
    (a0 : PySem.W.nsIn K mainGlobals "wrap" = some (some (.ref f0))) (l0 : K.lookup f0 = some ⟨oc0, od0, .func (PySem.W.fnOf "wrap" "wrap" (defArgs sx_wrap) (defBody sx_wrap) (defScope sx_wrap) .none kV0 dc0 pm0 an0 cd0 ct0), sl0⟩) (c0 : PySem.W.codeIn K cd0 "wrap" = true) (k0 : PySem.W.keepIn K (.ref f0) = true)
    (a1 : PySem.W.nsIn K mainGlobals "cut_quotient" = some (some (.ref f1))) (l1 : K.lookup f1 = some ⟨oc1, od1, .func (PySem.W.fnOf "cut_quotient" "cut_quotient" (defArgs sx_cut_quotient) (defBody sx_cut_quotient) (defScope sx_cut_quotient) .none kV1 dc1 pm1 an1 cd1 ct1), sl1⟩) (c1 : PySem.W.codeIn K cd1 "cut_quotient" = true) (k1 : PySem.W.keepIn K (.ref f1) = true)
    (a2 : PySem.W.nsIn K mainGlobals "result" = some (some (.ref f2))) (l2 : K.lookup f2 = some ⟨oc2, od2, .func (PySem.W.fnOf "result" "result" (defArgs sx_result) (defBody sx_result) (defScope sx_result) .none kV2 dc2 pm2 an2 cd2 ct2), sl2⟩) (c2 : PySem.W.codeIn K cd2 "result" = true) (k2 : PySem.W.keepIn K (.ref f2) = true)
    (a3 : PySem.W.nsIn K mainGlobals "_law_pool" = some (some (.ref f3))) (l3 : K.lookup f3 = some ⟨oc3, od3, .func (PySem.W.fnOf "_law_pool" "_law_pool" (defArgs sx_law_pool) (defBody sx_law_pool) (defScope sx_law_pool) .none kV3 dc3 pm3 an3 cd3 ct3), sl3⟩) (c3 : PySem.W.codeIn K cd3 "_law_pool" = true) (k3 : PySem.W.keepIn K (.ref f3) = true)
    (a4 : PySem.W.nsIn K mainGlobals "_law_draw" = some (some (.ref f4))) (l4 : K.lookup f4 = some ⟨oc4, od4, .func (PySem.W.fnOf "_law_draw" "_law_draw" (defArgs sx_law_draw) (defBody sx_law_draw) (defScope sx_law_draw) .none kV4 dc4 pm4 an4 cd4 ct4), sl4⟩) (c4 : PySem.W.codeIn K cd4 "_law_draw" = true) (k4 : PySem.W.keepIn K (.ref f4) = true)
    (a5 : PySem.W.nsIn K mainGlobals "_law_word" = some (some (.ref f5))) (l5 : K.lookup f5 = some ⟨oc5, od5, .func (PySem.W.fnOf "_law_word" "_law_word" (defArgs sx_law_word) (defBody sx_law_word) (defScope sx_law_word) .none kV5 dc5 pm5 an5 cd5 ct5), sl5⟩) (c5 : PySem.W.codeIn K cd5 "_law_word" = true) (k5 : PySem.W.keepIn K (.ref f5) = true)
    (a6 : PySem.W.nsIn K mainGlobals "_law_is_word" = some (some (.ref f6))) (l6 : K.lookup f6 = some ⟨oc6, od6, .func (PySem.W.fnOf "_law_is_word" "_law_is_word" (defArgs sx_law_is_word) (defBody sx_law_is_word) (defScope sx_law_is_word) .none kV6 dc6 pm6 an6 cd6 ct6), sl6⟩) (c6 : PySem.W.codeIn K cd6 "_law_is_word" = true) (k6 : PySem.W.keepIn K (.ref f6) = true)
    (a7 : PySem.W.nsIn K mainGlobals "_law_bits" = some (some (.ref f7))) (l7 : K.lookup f7 = some ⟨oc7, od7, .func (PySem.W.fnOf "_law_bits" "_law_bits" (defArgs sx_law_bits) (defBody sx_law_bits) (defScope sx_law_bits) .none kV7 dc7 pm7 an7 cd7 ct7), sl7⟩) (c7 : PySem.W.codeIn K cd7 "_law_bits" = true) (k7 : PySem.W.keepIn K (.ref f7) = true)
    (a8 : PySem.W.nsIn K mainGlobals "_law_logic" = some (some (.ref f8))) (l8 : K.lookup f8 = some ⟨oc8, od8, .func (PySem.W.fnOf "_law_logic" "_law_logic" (defArgs sx_law_logic) (defBody sx_law_logic) (defScope sx_law_logic) .none kV8 dc8 pm8 an8 cd8 ct8), sl8⟩) (c8 : PySem.W.codeIn K cd8 "_law_logic" = true) (k8 : PySem.W.keepIn K (.ref f8) = true)
    (a9 : PySem.W.nsIn K mainGlobals "_law_shifts" = some (some (.ref f9))) (l9 : K.lookup f9 = some ⟨oc9, od9, .func (PySem.W.fnOf "_law_shifts" "_law_shifts" (defArgs sx_law_shifts) (defBody sx_law_shifts) (defScope sx_law_shifts) .none kV9 dc9 pm9 an9 cd9 ct9), sl9⟩) (c9 : PySem.W.codeIn K cd9 "_law_shifts" = true) (k9 : PySem.W.keepIn K (.ref f9) = true)
    (a10 : PySem.W.nsIn K mainGlobals "law" = some (some (.ref f10))) (l10 : K.lookup f10 = some ⟨oc10, od10, .func (PySem.W.fnOf "law" "law" (defArgs sx_law) (defBody sx_law) (defScope sx_law) .none kV10 dc10 pm10 an10 cd10 ct10), sl10⟩) (c10 : PySem.W.codeIn K cd10 "law" = true) (k10 : PySem.W.keepIn K (.ref f10) = true)
    (z0 : PySem.W.nsIn K mainGlobals "len" = some none)
    (z1 : PySem.W.nsIn K mainGlobals "abs" = some none)
    (z2 : PySem.W.nsIn K mainGlobals "int" = some none)
    (z3 : PySem.W.nsIn K mainGlobals "list" = some none)
    (z4 : PySem.W.nsIn K mainGlobals "tuple" = some none)
    (z5 : PySem.W.nsIn K mainGlobals "max" = some none)
    (z6 : PySem.W.nsIn K mainGlobals "min" = some none)
    (z7 : PySem.W.nsIn K mainGlobals "isinstance" = some none)
    (z8 : PySem.W.nsIn K mainGlobals "range" = some none)
    (z9 : PySem.W.nsIn K mainGlobals "reversed" = some none)
    (z10 : PySem.W.nsIn K mainGlobals "zip" = some none)
    (z11 : PySem.W.nsIn K mainGlobals "enumerate" = some none)
    (z12 : PySem.W.nsIn K mainGlobals "bool" = some none)
    : ∃ fd : FuncData, (∀ (s : Shared) (v : Value), BindsTo s fd ⟨[v], []⟩ [("_law_script", v)]) ∧ ∀ base : Heap, K.In base → base.Ns mainGlobals mg → FnOk l.prog w K mg base (L2.CX l.prog w) 7 fa fd ["_law_script"] (spLaw K 63) := by
  refine law_all (tb := tb) (G := GG) (k := 6) (N := ns_law) X G hfa a10 l10 c10 k10 sc_law rfl rfl ck_law (fun _ _ _ _ _ _ us hl => match us, hl with | [_], _ => rfl) ?_ (glb_all ?_) ?_ hp
  · exact (all_cons (dk (N := ns_wrap) X G a0 l0 c0 k0 sc_wrap rfl rfl ck_wrap (fun _ _ _ _ _ _ us hl => match us, hl with | [_], _ => rfl)) (all_cons (dk (N := ns_cut_quotient) X G a1 l1 c1 k1 sc_cut_quotient rfl rfl ck_cut_quotient (fun _ _ _ _ _ _ us hl => match us, hl with | [_, _], _ => rfl)) (all_cons (dk (N := ns_result) X G a2 l2 c2 k2 sc_result rfl rfl ck_result (fun _ _ _ _ _ _ us hl => match us, hl with | [_, _, _], _ => rfl)) (all_cons (dk (N := ns_law_pool) X G a3 l3 c3 k3 sc_law_pool rfl rfl ck_law_pool (fun _ _ _ _ _ _ us hl => match us, hl with | [_], _ => rfl)) (all_cons (dk (N := ns_law_draw) X G a4 l4 c4 k4 sc_law_draw rfl rfl ck_law_draw (fun _ _ _ _ _ _ us hl => match us, hl with | [_, _], _ => rfl)) (all_cons (dk (N := ns_law_word) X G a5 l5 c5 k5 sc_law_word rfl rfl ck_law_word (fun _ _ _ _ _ _ us hl => match us, hl with | [_], _ => rfl)) (all_cons (dk (N := ns_law_is_word) X G a6 l6 c6 k6 sc_law_is_word rfl rfl ck_law_is_word (fun _ _ _ _ _ _ us hl => match us, hl with | [_], _ => rfl)) (all_cons (dk (N := ns_law_bits) X G a7 l7 c7 k7 sc_law_bits rfl rfl ck_law_bits (fun _ _ _ _ _ _ us hl => match us, hl with | [_], _ => rfl)) (all_cons (dk (N := ns_law_logic) X G a8 l8 c8 k8 sc_law_logic rfl rfl ck_law_logic (fun _ _ _ _ _ _ us hl => match us, hl with | [_, _], _ => rfl)) (all_cons (dk (N := ns_law_shifts) X G a9 l9 c9 k9 sc_law_shifts rfl rfl ck_law_shifts (fun _ _ _ _ _ _ us hl => match us, hl with | [_, _], _ => rfl)) all_nil))))))))))
  · exact (all_cons (gt (PySem.W.mg_none_of X G z12) (by decide +kernel) rfl) (all_cons (gt (PySem.W.mg_none_of X G z2) (by decide +kernel) rfl) all_nil))
  · exact (all_cons (PySem.W.mg_none_of X G z0) (all_cons (PySem.W.mg_none_of X G z1) (all_cons (PySem.W.mg_none_of X G z2) (all_cons (PySem.W.mg_none_of X G z3) (all_cons (PySem.W.mg_none_of X G z4) (all_cons (PySem.W.mg_none_of X G z5) (all_cons (PySem.W.mg_none_of X G z6) (all_cons (PySem.W.mg_none_of X G z7) (all_cons (PySem.W.mg_none_of X G z8) (all_cons (PySem.W.mg_none_of X G z9) (all_cons (PySem.W.mg_none_of X G z10) (all_cons (PySem.W.mg_none_of X G z11) all_nil))))))))))))
end Lk02
open PySem PySem.W PyProof.Rows in
set_option maxRecDepth 100000 in
set_option maxHeartbeats 0 in
theorem PySem.Challenge.cw_sameruns_k02_bits_holds : PySem.Challenge.rw_sameruns_k02_bits.Holds := by
  w_on; o_law; k_head; (case hw => w_witness2)
  k_fill
  refine Pv.walk (l := PySem.Challenge.rw_sameruns_k02_bits) (n := 63) (k := 7) (x := "_law_script") rfl (by decide) rfl ⟨rfl, by decide, by decide⟩ (fun w h Y => PySem.W.kIn_of Y) ?F
  case F =>
    intro w mg fa h KX G hmg
    refine' Lk02.all_mk KX G hmg Lk02.plain ?a0 ?l0 ?c0 ?k0 ?a1 ?l1 ?c1 ?k1 ?a2 ?l2 ?c2 ?k2 ?a3 ?l3 ?c3 ?k3 ?a4 ?l4 ?c4 ?k4 ?a5 ?l5 ?c5 ?k5 ?a6 ?l6 ?c6 ?k6 ?a7 ?l7 ?c7 ?k7 ?a8 ?l8 ?c8 ?k8 ?a9 ?l9 ?c9 ?k9 ?a10 ?l10 ?c10 ?k10 ?z0 ?z1 ?z2 ?z3 ?z4 ?z5 ?z6 ?z7 ?z8 ?z9 ?z10 ?z11 ?z12
    (case a0 => k_is)
    (case l0 => k_is)
    (case c0 => k_is)
    (case k0 => k_is)
    (case a1 => k_is)
    (case l1 => k_is)
    (case c1 => k_is)
    (case k1 => k_is)
    (case a2 => k_is)
    (case l2 => k_is)
    (case c2 => k_is)
    (case k2 => k_is)
    (case a3 => k_is)
    (case l3 => k_is)
    (case c3 => k_is)
    (case k3 => k_is)
    (case a4 => k_is)
    (case l4 => k_is)
    (case c4 => k_is)
    (case k4 => k_is)
    (case a5 => k_is)
    (case l5 => k_is)
    (case c5 => k_is)
    (case k5 => k_is)
    (case a6 => k_is)
    (case l6 => k_is)
    (case c6 => k_is)
    (case k6 => k_is)
    (case a7 => k_is)
    (case l7 => k_is)
    (case c7 => k_is)
    (case k7 => k_is)
    (case a8 => k_is)
    (case l8 => k_is)
    (case c8 => k_is)
    (case k8 => k_is)
    (case a9 => k_is)
    (case l9 => k_is)
    (case c9 => k_is)
    (case k9 => k_is)
    (case a10 => k_is)
    (case l10 => k_is)
    (case c10 => k_is)
    (case k10 => k_is)
    (case z0 => k_is)
    (case z1 => k_is)
    (case z2 => k_is)
    (case z3 => k_is)
    (case z4 => k_is)
    (case z5 => k_is)
    (case z6 => k_is)
    (case z7 => k_is)
    (case z8 => k_is)
    (case z9 => k_is)
    (case z10 => k_is)
    (case z11 => k_is)
    (case z12 => k_is)

