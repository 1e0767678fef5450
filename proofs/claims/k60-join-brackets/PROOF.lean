import PyProof.Rows.All
import Wide.All
import OpenK.AllK
import Wide.FinOn
import HandS.ForMost
import HandS.Exc
import HandS.TryOnly
import HandS.ExcOwn
import HandS.WordsExc
import HandS.Wide
import HandS.WideBits
import HandS.Deep
import HandS.More
import HandS.HeadHook3
import HandS.Zip
import HandS.StrMore
import HandS.TupMul
import HandS.ExcField
import HandS.ExcIs
import HandS.ExcInit
import HandS.Head0
import HandS.Head1
import HandS.Head2
import HandS.HeadHook1
import HandS.HeadHook2
import HandS.HeadWalk
import HandS.Property
import HandS.TupAny
import HandS.IsInst
import PyProof.StrOps2
import HandS.List
import HandS.Text
import HandS.Style
import HandS.Sort
import HandS.Iter
import HandS.SetFor
import HandS.Star
import HandS.SortInts
import HandS.RaiseMore
import KE.GoesEnumKw
import HandS.Rev
import HandS.RevRange
import HandS.Conv
import HandS.DictComp
import KE.DatumOrd
import PyProof.Rows.CallKwBuiltin
import PyProof.ExcBaseAll.ValueError
import HandS.SlotsOwn
import HandS.Defaults
import KE.KBits
import PySem.Challenge.RW_sameruns_k60_join_brackets
set_option Elab.async false
set_option linter.all false
set_option maxRecDepth 100000
set_option maxHeartbeats 4000000
namespace Pv
open PySem (Str Operator CmpOp)

/-! ## data -/
/-- a value as a tree; lists and dicts within are values that never change; loc: an object of the store -/
inductive D where
  | none | bool (b : Bool) | int (i : Int) | str (s : Str)
  | tup (xs : List D) | lst (xs : List D) | dic (kvs : List (D × D))
  | loc (n : Nat) | ty (n : String)
  | obj (c : Str) (fs : List (Str × D))
  deriving Inhabited

/-- an exception of the text's own: its class's name, its fields -/
structure Xc where
  c : Str
  fs : List (Str × D)
/-- what a slot holds: undefined, a value, an own list or dict (no one else knows it), a caught error -/
inductive Sl where
  | un | fr (d : D) | ow (d : D) | xc (x : Xc)
  deriving Inhabited
abbrev En := List Sl
/-- objects of the store: lists and dicts (D.lst, D.dic at the top) -/
abbrev Sto := List D

mutual
/-- no list, dict, or store object within -/
def D.imm : D → Bool
  | .none | .bool _ | .int _ | .str _ | .ty _ => true
  | .tup xs => immL xs
  | .lst _ | .dic _ | .loc _ | .obj _ _ => false
def immL : List D → Bool
  | [] => true
  | x :: xs => x.imm && immL xs
end
mutual
/-- no store object within -/
def D.nol : D → Bool
  | .none | .bool _ | .int _ | .str _ | .ty _ => true
  | .tup xs | .lst xs => nolL xs
  | .dic kvs => nolK kvs
  | .obj _ fs => nolF fs
  | .loc _ => false
def nolL : List D → Bool
  | [] => true
  | x :: xs => x.nol && nolL xs
def nolK : List (D × D) → Bool
  | [] => true
  | (a, b) :: xs => a.nol && b.nol && nolK xs
def nolF : List (Str × D) → Bool
  | [] => true
  | (_, b) :: xs => b.nol && nolF xs
end
mutual
/-- data that == compares, k levels at most -/
def D.fine : Nat → D → Bool
  | _, .none | _, .bool _ | _, .int _ => true
  | _, .str x => x.cps.all (· < 0x110000)
  | k + 1, .tup xs | k + 1, .lst xs => fineL k xs
  | _, _ => false
def fineL : Nat → List D → Bool
  | _, [] => true
  | k, x :: xs => x.fine k && fineL k xs
end
mutual
/-- Python's == -/
def D.eqv : D → D → Bool
  | .none, .none => true
  | .bool a, .bool b => a == b
  | .bool a, .int j => (if a then 1 else 0) == j
  | .int i, .bool b => i == (if b then 1 else 0)
  | .int i, .int j => decide (i = j)
  | .str x, .str y => decide (x = y)
  | .tup xs, .tup ys => eqvL xs ys
  | .lst xs, .lst ys => eqvL xs ys
  | _, _ => false
def eqvL : List D → List D → Bool
  | [], [] => true
  | x :: xs, y :: ys => x.eqv y && eqvL xs ys
  | _, _ => false
end

mutual
/-- the same data -/
def D.same : D → D → Bool
  | .none, .none => true
  | .bool a, .bool b => a == b
  | .int a, .int b => decide (a = b)
  | .str a, .str b => decide (a = b)
  | .tup a, .tup b => sameL a b
  | .lst a, .lst b => sameL a b
  | .dic a, .dic b => sameP a b
  | .loc a, .loc b => decide (a = b)
  | .ty a, .ty b => decide (a = b)
  | .obj c a, .obj c' b => decide (c = c') && sameF a b
  | _, _ => false
def sameL : List D → List D → Bool
  | [], [] => true
  | x :: xs, y :: ys => x.same y && sameL xs ys
  | _, _ => false
def sameP : List (D × D) → List (D × D) → Bool
  | [], [] => true
  | (a, b) :: xs, (c, d) :: ys => a.same c && b.same d && sameP xs ys
  | _, _ => false
def sameF : List (Str × D) → List (Str × D) → Bool
  | [], [] => true
  | (a, b) :: xs, (c, d) :: ys => decide (a = c) && b.same d && sameF xs ys
  | _, _ => false
end
mutual
theorem same_eq : ∀ {a b : D}, a.same b = true → a = b
  | .none, b, h => by cases b <;> simp [D.same] at h <;> rfl
  | .bool _, b, h => by cases b <;> simp [D.same] at h; rw [h]
  | .int _, b, h => by cases b <;> simp [D.same] at h; rw [h]
  | .str _, b, h => by cases b <;> simp [D.same] at h; rw [h]
  | .tup xs, b, h => by cases b <;> simp [D.same] at h; rw [sameL_eq h]
  | .lst xs, b, h => by cases b <;> simp [D.same] at h; rw [sameL_eq h]
  | .dic xs, b, h => by cases b <;> simp [D.same] at h; rw [sameP_eq h]
  | .loc _, b, h => by cases b <;> simp [D.same] at h; rw [h]
  | .ty _, b, h => by cases b <;> simp [D.same] at h; rw [h]
  | .obj c xs, b, h => by cases b <;> simp [D.same] at h; rw [h.1, sameF_eq h.2]
theorem sameL_eq : ∀ {a b : List D}, sameL a b = true → a = b
  | [], b, h => by cases b <;> simp [sameL] at h <;> rfl
  | x :: xs, b, h => by cases b <;> simp [sameL] at h; rw [same_eq h.1, sameL_eq h.2]
theorem sameP_eq : ∀ {a b : List (D × D)}, sameP a b = true → a = b
  | [], b, h => by cases b <;> simp [sameP] at h <;> rfl
  | (x, z) :: xs, b, h => by
    cases b with
    | nil => simp [sameP] at h
    | cons y ys => obtain ⟨y1, y2⟩ := y; simp [sameP] at h; rw [same_eq h.1.1, same_eq h.1.2, sameP_eq h.2]
theorem sameF_eq : ∀ {a b : List (Str × D)}, sameF a b = true → a = b
  | [], b, h => by cases b <;> simp [sameF] at h <;> rfl
  | (x, z) :: xs, b, h => by
    cases b with
    | nil => simp [sameF] at h
    | cons y ys => obtain ⟨y1, y2⟩ := y; simp [sameF] at h; rw [h.1.1, same_eq h.1.2, sameF_eq h.2]
end
mutual
theorem same_self : ∀ a : D, a.same a = true
  | .none | .bool _ | .int _ | .str _ | .loc _ | .ty _ => by simp [D.same]
  | .tup xs | .lst xs => by simp [D.same, sameL_self xs]
  | .dic xs => by simp [D.same, sameP_self xs]
  | .obj c xs => by simp [D.same, sameF_self xs]
theorem sameL_self : ∀ a : List D, sameL a a = true
  | [] => by simp [sameL]
  | x :: xs => by simp [sameL, same_self x, sameL_self xs]
theorem sameP_self : ∀ a : List (D × D), sameP a a = true
  | [] => by simp [sameP]
  | (x, z) :: xs => by simp [sameP, same_self x, same_self z, sameP_self xs]
theorem sameF_self : ∀ a : List (Str × D), sameF a a = true
  | [] => by simp [sameF]
  | (x, z) :: xs => by simp [sameF, same_self z, sameF_self xs]
end
/-- the list at n is xs -/
def isL (s : Sto) (n : Nat) (xs : List D) : Bool := match s[n]? with
  | some (.lst ys) => sameL ys xs
  | _ => false
theorem isL_eq {s : Sto} {n : Nat} {xs : List D} (h : isL s n xs = true) : s[n]? = some (.lst xs) := by
  unfold isL at h
  split at h
  · rename_i q; rw [q, sameL_eq h]
  · cases h
theorem isL_of {s : Sto} {n : Nat} {xs : List D} (h : s[n]? = some (.lst xs)) : isL s n xs = true := by
  unfold isL; rw [h]; exact sameL_self xs

/-! ## results -/
inductive R (α : Type) where
  | ok (a : α) (e : En) (s : Sto)
  | ex (x : Xc) (e : En) (s : Sto)
  | no
/-- where nothing may be raised -/
def R.nox {α : Type} : R α → R α
  | .ok a e s => .ok a e s
  | _ => .no
@[simp] theorem R.nox_ok {α : Type} (a : α) (e : En) (s : Sto) : (R.ok a e s).nox = .ok a e s := (rfl)
@[simp] theorem R.nox_ex {α : Type} (x : Xc) (e : En) (s : Sto) : (R.ex x e s : R α).nox = .no := (rfl)
@[simp] theorem R.nox_no {α : Type} : (R.no : R α).nox = .no := (rfl)
def R.bind {α β : Type} (r : R α) (f : α → En → Sto → R β) : R β :=
  match r with
  | .ok a e s => f a e s
  | .ex x e s => .ex x e s
  | .no => .no
@[simp] theorem R.bind_ok {α β : Type} (a : α) (e : En) (s : Sto) (f : α → En → Sto → R β) : (R.ok a e s).bind f = f a e s := (rfl)
@[simp] theorem R.bind_ex {α β : Type} (x : Xc) (e : En) (s : Sto) (f : α → En → Sto → R β) : (R.ex x e s : R α).bind f = .ex x e s := (rfl)
@[simp] theorem R.bind_no {α β : Type} (f : α → En → Sto → R β) : (R.no : R α).bind f = .no := (rfl)
/-- a value with whether it is new and own -/
abbrev DB := D × Bool
def R.of (o : Option DB) (e : En) (s : Sto) : R DB := match o with
  | some r => .ok r e s
  | none => .no
@[simp] theorem R.of_some (r : DB) (e : En) (s : Sto) : R.of (some r) e s = .ok r e s := (rfl)
@[simp] theorem R.of_none (e : En) (s : Sto) : R.of none e s = .no := (rfl)

/-- the flow behind a statement -/
inductive O where
  | nx | rt (d : D) (own : Bool) | bk | ct
  deriving Inhabited
/-- what a def gives -/
inductive Rv where
  | rt (d : D) (own : Bool) | rx (x : Xc)
abbrev Tab := Str → List D → Sto → Option (Rv × Sto)
abbrev Glb := Str → Option D

/-! ## core terms -/
/-- built-in functions -/
inductive Bf where
  | len | abs | int | list | tuple | max | min | isi | all | any | sum | sorted | str | dict
  deriving DecidableEq, Inhabited
def Bf.name : Bf → Str
  | .len => "len" | .abs => "abs" | .int => "int" | .list => "list" | .tuple => "tuple" | .max => "max" | .min => "min" | .isi => "isinstance"
  | .all => "all" | .any => "any" | .sum => "sum" | .sorted => "sorted" | .str => "str" | .dict => "dict"
/-- the built-in names that the text may not bind -/
def bltAll : List Str := ["len", "abs", "int", "list", "tuple", "max", "min", "isinstance", "range", "reversed", "zip", "enumerate", "all", "any", "sum", "sorted", "str", "dict", "set"]
/-- methods that change nothing -/
inductive Mf where
  | get | index | count | join | upper | partition | split | startswith | endswith | removeprefix | removesuffix | isdigit | find
  deriving DecidableEq, Inhabited
/-- methods that change a list or a dict -/
inductive Cf where
  | append | pop | insert | extend | reverse
  deriving DecidableEq, Inhabited
def Mf.name : Mf → Str
  | .get => "get" | .index => "index" | .count => "count" | .join => "join" | .upper => "upper" | .partition => "partition" | .split => "split" | .startswith => "startswith" | .endswith => "endswith"
  | .removeprefix => "removeprefix" | .removesuffix => "removesuffix" | .isdigit => "isdigit" | .find => "find"
def Cf.name : Cf → Str
  | .append => "append" | .pop => "pop" | .insert => "insert" | .extend => "extend" | .reverse => "reverse"
inductive Kd where
  | lst | tup | str | dic | obj
  deriving DecidableEq, Inhabited
mutual
inductive E where
  | int (i : Int) | str (s : Str) | bl (b : Bool) | non
  | var (i : Nat) | gl (x : Str)
  | bin (op : Operator) (es : Es) | neg (a : E) | not (a : E)
  | and (es : Es) | or (es : Es) | ite (c a b : E)
  | cmp (op : CmpOp) (es : Es) | chn (o1 o2 : CmpOp) (es : Es) (c : E)
  | tup (es : Es) | lst (l : Bool) (es : Es)
  | call (p : Bool) (f : Str) (es : Es) | blt (f : Bf) (es : Es)
  | mth (m : Mf) (o : Es) (es : Es) | chv (m : Cf) (i : Nat) (es : Es) | cho (m : Cf) (o : E) (es : Es)
  | sub (es : Es) | slc (k : Nat) (es : Es) | slb (es : Es) (c : E)
  | dct (l : Bool) (es : Es)
  | lri (it : I)
  | atr (cs : List Str) (f : Str) (es : Es)
  | new (p : Bool) (c key : Str) (es : Es)
  | met (p : Bool) (cs : List (Str × Str)) (m : Str) (o : Es) (es : Es)
  | stt (es : Es) (c : E)
  | gds (x : Str) (e : E) | gdi (n : Bool) (x : Str) (e : E) | gdg (x : Str) (es : Es)
  | mov (i : Nat)
  /-- list(d.values()) -/
  | vls (m : Nat) (es : Es)
  /-- isinstance(e, C), isinstance(e, (C, ..)) of a caught error; the classes for which it is so, is not so -/
  | xis (i : Nat) (tp : Bool) (cs ys ns : List Str)
  /-- a field of a caught error -/
  | xfl (i : Nat) (cs : List Str) (f : Str)
  | comp (l : Bool) (elt : E) (t : T) (it : I) (c : Es) (own : List (Str × Nat))
  | dcm (l : Bool) (k v : E) (t : T) (it : I) (c : Es) (own : List (Str × Nat))
  /-- max(e, default=d) of a tuple of ints -/
  | mxd (d : Int) (es : Es)
  /-- isinstance(e, C) of an instance of the own class C -/
  | isc (c : Str) (es : Es)
  /-- [elt for t in x], x the own list of slot i, which it stays -/
  | cmo (l : Bool) (elt : E) (t : T) (i : Nat) (c : Es) (own : List (Str × Nat))
  /-- [elt for t in x], x the dict of slot i, its keys -/
  | cmd (l : Bool) (elt : E) (t : T) (i : Nat) (c : Es) (own : List (Str × Nat))
  /-- [elt for t in o], o an unchanged list of the store -/
  | cms (l : Bool) (elt : E) (t : T) (o : E) (c : Es) (own : List (Str × Nat))
  /-- o.m, a property of own classes: (class, key of its getter) -/
  | prp (cs : List (Str × Str)) (m : Str) (es : Es)
  /-- a + b of two instances of one own class: (class, key of its __add__) -/
  | opm (cs : List (Str × Str)) (es : Es)
  | nev
inductive Es where
  | nil | cons (e : E) (es : Es)
inductive I where
  | it (e : E) | rg1 (a : E) | rg2 (a b : E) | rev (e : E) | zip (a b : E) | enu (e : E) | ens (e : E) (k : Int) | rv1 (a : E) | rv2 (a b : E)
inductive T where
  | nm (i : Nat) | tp (ts : Ts) | sbv (n : Nat) (i : E) | sbo (o i : E)
inductive Ts where
  | nil | cons (t : T) (ts : Ts)
end
mutual
inductive S where
  | sav (n : Nat) (cs : List Str) (f : Str) (e : E) | sao (o : E) (cs : List Str) (f : Str) (e : E)
  | exp (e : E) | set (t : T) (e : E) | aug (i : Nat) (op : Operator) (e : E)
  | ifs (c : E) (a b : Ss) | whl (c : E) (b : Ss) | for_ (t : T) (it : I) (b : Ss)
  | ret (e : E) | retN | brk | cnt | pas | nev
  | rse (c : Str) (fs : List Str) (es : Es)
  /-- for .. in d (0), d.items() (1), d.values() (2), d in slot i; nothing may be raised within -/
  | fdk (t : T) (m : Nat) (i : Nat) (b : Ss)
  /-- for t in x[y]: slots, the list's dict there, its keys; nothing may be raised within it -/
  | fds (t : T) (i j : Nat) (b : Ss)
  /-- for t in o, o an unchanged list of the store -/
  | fos (t : T) (o : E) (b : Ss)
  /-- try: b except C as (slot i): c; the classes that are caught, that are not -/
  | trx (i : Option Nat) (cn : Str) (ys ns : List Str) (b c : Ss)
inductive Ss where
  | nil | cons (s : S) (ss : Ss)
end

/-! ## operations on data -/
def sizeMax : Nat := 16777216
def wideI : Int := 1267650600228229401496703205376
def litI : Int := 18446744073709551616
def nul (d : D) : Option DB := some (d, false)
/-- a text so often -/
def strRep (z : Str) (k : Nat) : Str := ⟨(List.replicate k z.cps.toList).flatten.toArray⟩
def binD (op : Operator) (a b : D) : Option DB :=
  match op, a, b with
  | .Add, .int i, .int j => nul (.int (i + j))
  | .Sub, .int i, .int j => nul (.int (i - j))
  | .Mult, .int i, .int j => if (-litI < i ∧ i < litI) ∨ (-litI < j ∧ j < litI) then nul (.int (i * j)) else none
  | .Mult, .tup xs, .int k => if xs.isEmpty = false ∧ 2 ≤ k ∧ k ≤ 1000 ∧ xs.length ≤ 1000 then nul (.tup (List.replicate k.toNat xs).flatten) else none
  | .Mult, .str z, .int k => if 0 ≤ k ∧ k < 4611686018427387904 ∧ z.length * k.toNat ≤ sizeMax then nul (.str (strRep z k.toNat)) else none
  | .FloorDiv, .int i, .int j => if 0 < j ∧ j < wideI then nul (.int (i / j)) else none
  | .Mod, .int i, .int j => if 0 < j then nul (.int (i % j)) else none
  | .BitAnd, .int i, .int j => nul (.int (PySem.Builtin.bitAnd i j))
  | .BitOr, .int i, .int j => nul (.int (PySem.Builtin.bitOr i j))
  | .BitXor, .int i, .int j => nul (.int (PySem.Builtin.bitXor i j))
  | .LShift, .int i, .int j => if (0 ≤ j ∧ j ≤ 1000000) ∧ -litI < i ∧ i < litI then nul (.int (i * 2 ^ j.toNat)) else none
  | .RShift, .int i, .int j => if 0 ≤ j then nul (.int (i / 2 ^ j.toNat)) else none
  | .Add, .str x, .str y => if x.length + y.length ≤ sizeMax then nul (.str (x ++ y)) else none
  | .Add, .lst xs, .lst ys => if xs.length + ys.length ≤ sizeMax then some (.lst (xs ++ ys), true) else none
  | .Add, .tup xs, .tup ys => if xs.length + ys.length ≤ sizeMax then nul (.tup (xs ++ ys)) else none
  | _, _, _ => none
/-- the scalars that Python's == takes apart -/
def eqD (a b : D) : Option Bool := if a.fine 64 && b.fine 64 then some (a.eqv b) else none
def memD (x : D) (xs : List D) : Option Bool := if x.fine 64 && fineL 64 xs then some (xs.any fun y => y.eqv x) else none
/-- an int or a text: a key -/
def D.key : D → Bool
  | .int _ | .str _ => true
  | _ => false
/-- the same key -/
def sameK : D → D → Bool
  | .int i, .int j => decide (i = j)
  | .str x, .str y => decide (x = y)
  | _, _ => false
def lookK : List (D × D) → D → Option D
  | [], _ => none
  | (c, v) :: r, k => if sameK c k then some v else lookK r k
def putKD (kvs : List (D × D)) (k v : D) : List (D × D) :=
  if (lookK kvs k).isSome then kvs.map (fun p => if sameK p.1 k then (p.1, v) else p) else kvs ++ [(k, v)]
def dropKD (kvs : List (D × D)) (k : D) : List (D × D) := kvs.filter fun p => !sameK p.1 k
/-- a display's pairs -/
def mkKD : List (D × D) → List D → Option (List (D × D))
  | acc, [] => some acc
  | acc, k :: v :: r => if k.key then mkKD (putKD acc k v) r else none
  | _, _ => none
/-- a dict of the module: text keys -/
def lookS : List (D × D) → Str → Option D
  | [], _ => none
  | (.str x, v) :: r, z => if x = z then some v else lookS r z
  | _ :: r, z => lookS r z
def D.isDic : D → Bool
  | .dic _ => true
  | _ => false
def gDic (g : Option D) : Bool := match g with
  | some d => d.isDic
  | none => false
def noDic : D → Option DB
  | .dic _ => none
  | d => some (d, false)
def gdsO (g : Option D) (k : D) : Option DB := match g, k with
  | some (.dic kvs), .str z => (lookS kvs z).map fun v => (v, false)
  | some (.dic kvs), .int i => (lookK kvs (.int i)).map fun v => (v, false)
  | _, _ => none
def gdiO (n : Bool) (g : Option D) (k : D) : Option DB := match g, k with
  | some (.dic kvs), .str z => some (.bool (if n then !(lookS kvs z).isSome else (lookS kvs z).isSome), false)
  | some (.dic kvs), .int i => some (.bool (if n then !(lookK kvs (.int i)).isSome else (lookK kvs (.int i)).isSome), false)
  | _, _ => none
theorem lookS_K (z : Str) : ∀ l : List (D × D), lookS l z = lookK l (.str z)
  | [] => rfl
  | (k, v) :: r => by
    have := lookS_K z r
    cases k <;> simp [lookS, lookK, sameK, this]
theorem gdsO_K {kvs : List (D × D)} {k : D} {r : DB} (h : gdsO (some (.dic kvs)) k = some r) : k.key = true ∧ ∃ v, lookK kvs k = some v ∧ r = (v, false) := by
  unfold gdsO at h
  split at h
  · rename_i q; cases q
    rw [lookS_K, Option.map_eq_some_iff] at h
    obtain ⟨v, h1, h2⟩ := h
    exact ⟨rfl, v, h1, h2.symm⟩
  · rename_i q; cases q
    rw [Option.map_eq_some_iff] at h
    obtain ⟨v, h1, h2⟩ := h
    exact ⟨rfl, v, h1, h2.symm⟩
  · cases h
theorem gdiO_K {n : Bool} {kvs : List (D × D)} {k : D} {r : DB} (h : gdiO n (some (.dic kvs)) k = some r) : k.key = true ∧ r = (.bool (if n then !(lookK kvs k).isSome else (lookK kvs k).isSome), false) := by
  unfold gdiO at h
  split at h
  · rename_i q; cases q
    rw [lookS_K] at h
    cases h
    exact ⟨rfl, rfl⟩
  · rename_i q; cases q
    cases h
    exact ⟨rfl, rfl⟩
  · cases h
def inD (x y : D) : Option Bool :=
  match y with
  | .lst xs | .tup xs => memD x xs
  | .dic kvs => if x.key then some (lookK kvs x).isSome else none
  | .str y => match x with
    | .str x => some (!(PySem.Builtin.Str.occurrences y x 0 y.length 1).isEmpty)
    | _ => none
  | _ => none
def D.isN : D → Bool
  | .none => true
  | _ => false
def cmpD (op : CmpOp) (a b : D) : Option Bool :=
  match op with
  | .Eq => eqD a b
  | .NotEq => (eqD a b).map (!·)
  | .Lt => match a, b with | .int i, .int j => some (decide (i < j)) | .str i, .str j => some (decide (i.cps.toList < j.cps.toList)) | _, _ => none
  | .LtE => match a, b with | .int i, .int j => some (decide (i ≤ j)) | _, _ => none
  | .Gt => match a, b with | .int i, .int j => some (decide (j < i)) | .str i, .str j => some (decide (j.cps.toList < i.cps.toList)) | _, _ => none
  | .GtE => match a, b with | .int i, .int j => some (decide (j ≤ i)) | _, _ => none
  | .Is => match b with | .none => some a.isN | .bool c => (match a with | .bool z => some (decide (z = c)) | _ => some false) | _ => none
  | .IsNot => match b with | .none => some (!a.isN) | .bool c => (match a with | .bool z => some (!decide (z = c)) | _ => some true) | _ => none
  | .In => inD a b
  | .NotIn => (inD a b).map (!·)
def atD (xs : List D) (i : Int) : Option D := L2.atI xs i
def subD (a i : D) : Option D :=
  match a, i with
  | .tup xs, .int j => atD xs j
  | .lst xs, .int j => atD xs j
  | .str z, .int j => if z.length ≤ sizeMax then (L2.atI z.cps.toList j).map fun c => .str ⟨#[c]⟩ else none
  | .dic kvs, k => if k.key then lookK kvs k else none
  | _, _ => none
def cutL {α : Type} (xs : List α) (lo hi : Option Int) : List α := (xs.drop (HT.sIx xs.length 0 lo)).take (HT.sIx xs.length xs.length hi - HT.sIx xs.length 0 lo)
def slcD (a : D) (lo hi : Option Int) : Option DB :=
  match a with
  | .lst xs => some (.lst (cutL xs lo hi), true)
  | .tup xs => nul (.tup (cutL xs lo hi))
  | .str z => if z.length ≤ sizeMax then nul (.str (L2.cutS z lo hi)) else none
  | _ => none
/-- the type of a value -/
def tyD : D → Option String
  | .none => some "NoneType"
  | .bool _ => some "bool"
  | .int _ => some "int"
  | .str _ => some "str"
  | .tup _ => some "tuple"
  | .lst _ => some "list"
  | .dic _ => some "dict"
  | _ => none
def typeOK (n : String) (d : D) : Option Bool := (tyD d).bind fun m =>
  if n = "int" then some (m == "int" || m == "bool") else if n = "bool" then some (m == "bool") else if n = "str" then some (m == "str") else if n = "tuple" then some (m == "tuple")
  else if n = "list" then some (m == "list") else if n = "dict" then some (m == "dict") else none
def maxL : List D → Option Int
  | [.int i] => some i
  | .int i :: r => (maxL r).map fun m => if m < i then i else m
  | _ => none
/-- all ints -/
def intsD : List D → Option (List Int)
  | [] => some []
  | .int i :: r => (intsD r).map (i :: ·)
  | _ => none
def blsD : List D → Option (List Bool)
  | [] => some []
  | .bool i :: r => (blsD r).map (i :: ·)
  | _ => none
def strsD : List D → Option (List Str)
  | [] => some []
  | .str i :: r => (strsD r).map (i :: ·)
  | _ => none
def insI (i : Int) : List Int → List Int
  | [] => [i]
  | j :: r => if i ≤ j then i :: j :: r else j :: insI i r
def sortI : List Int → List Int
  | [] => []
  | i :: r => insI i (sortI r)
def typeT : List D → D → Option Bool
  | [], d => (tyD d).map fun _ => false
  | .ty n :: r, d => (typeOK n d).bind fun a => (typeT r d).map fun b => a || b
  | _, _ => none
/-- the greatest of ints -/
def mxI (i : Int) (is : List Int) : Int := is.foldl (fun m x => if x > m then x else m) i
def mxdO (d : Int) : List D → Option DB
  | [.tup xs] => (intsD xs).map fun is => match is with
    | [] => (.int d, false)
    | i :: r => (.int (mxI i r), false)
  | _ => none
def iscO (c : Str) : List D → Option DB
  | [.obj c' _] => if c' = c then some (.bool true, false) else none
  | _ => none
def bltD : Bf → List D → Option DB
  | .len, [.lst xs] => nul (.int xs.length)
  | .len, [.tup xs] => nul (.int xs.length)
  | .len, [.str z] => if z.length ≤ sizeMax then nul (.int z.length) else none
  | .len, [.dic kvs] => nul (.int kvs.length)
  | .abs, [.int i] => nul (.int (if i < 0 then -i else i))
  | .int, [.int i] => nul (.int i)
  | .int, [.bool b] => nul (.int (if b then 1 else 0))
  | .int, [.str z] => if z.length ≤ 640 then (PySem.intText? z).map fun i => (.int i, false) else none
  | .list, [.lst xs] => some (.lst xs, true)
  | .list, [.tup xs] => some (.lst xs, true)
  | .list, [.dic kvs] => some (.lst (kvs.map (·.1)), true)
  | .tuple, [.lst xs] => nul (.tup xs)
  | .tuple, [.tup xs] => nul (.tup xs)
  | .max, [.int i, .int j] => nul (.int (if j > i then j else i))
  | .max, [.lst xs] => (intsD xs).bind fun is => match is with
    | [] => none
    | i :: r => some (.int (mxI i r), false)
  | .min, [.int i, .int j] => nul (.int (if j < i then j else i))
  | .isi, [d, .ty n] => (typeOK n d).map fun b => (.bool b, false)
  | .isi, [d, .tup ts] => (typeT ts d).map fun b => (.bool b, false)
  | .all, [.lst xs] => (blsD xs).map fun bs => (.bool (bs.all id), false)
  | .any, [.lst xs] => (blsD xs).map fun bs => (.bool (bs.any id), false)
  | .sum, [.lst xs] => (intsD xs).map fun is => (.int is.sum, false)
  | .sorted, [.lst xs] => (intsD xs).map fun is => (.lst ((sortI is).map D.int), true)
  | .sorted, [.dic kvs] => (intsD (kvs.map (·.1))).bind fun is => if is.length ≤ sizeMax then some (.lst ((sortI is).map D.int), true) else none
  | .str, [.int i] => if i.natAbs.log2 < 1920 then nul (.str (toString i)) else none
  | .str, [.str z] => nul (.str z)
  | .dict, [.dic kvs] => some (.dic kvs, true)
  | _, _ => none
/-- the kind of a value -/
def kindD : D → Option Kd
  | .lst _ => some .lst
  | .tup _ => some .tup
  | .str _ => some .str
  | .dic _ => some .dic
  | .obj _ _ => some .obj
  | _ => none
/-- the first place of a thing -/
def indexD (x : D) : List D → Option Nat
  | [] => none
  | y :: r => if y.eqv x then some 0 else (indexD x r).map (· + 1)
/-- methods that change nothing -/
def mthK : Mf → Kd → Bool
  | .get, .dic => true
  | .index, .lst => true
  | .count, .lst => true
  | .join, .str => true
  | .upper, .str | .partition, .str | .split, .str | .startswith, .str | .endswith, .str | .removeprefix, .str | .removesuffix, .str | .isdigit, .str | .find, .str => true
  | _, _ => false
def mthD : Mf → D → List D → Option DB
  | .get, .dic kvs, [k] => if k.key then nul ((lookK kvs k).getD .none) else none
  | .get, .dic kvs, [k, d] => if k.key then nul ((lookK kvs k).getD d) else none
  | .index, .lst xs, [x] => if x.fine 64 && fineL 63 xs then (indexD x xs).map fun (n : Nat) => (D.int (n : Int), false) else none
  | .count, .lst xs, [.int x] => (intsD xs).map fun is => (D.int ((is.count x : Nat) : Int), false)
  | .count, .lst xs, [.bool x] => (blsD xs).map fun is => (D.int ((is.count x : Nat) : Int), false)
  | .join, .str a, [.lst xs] => match strsD xs with
    | some ys => if (ys.map (·.length)).sum + ys.length * a.length ≤ sizeMax then some (.str (PySem.Txt.join a ys), false) else none
    | none => none
  | .join, .str a, [.tup xs] => match strsD xs with
    | some ys => if (ys.map (·.length)).sum + ys.length * a.length ≤ sizeMax then some (.str (PySem.Txt.join a ys), false) else none
    | none => none
  | .upper, .str a, [] => if a.length ≤ 5592405 then some (.str (PySem.Txt.upper a), false) else none
  | .partition, .str a, [.str b] => if (b.length == 0) = false ∧ a.length ≤ sizeMax then some (.tup [.str (PySem.Txt.partition a b).1, .str (PySem.Txt.partition a b).2.1, .str (PySem.Txt.partition a b).2.2], false) else none
  | .split, .str a, [.str b] => if (b.length == 0) = false ∧ a.length + 2 ≤ sizeMax then some (.lst ((PySem.Txt.split a b).map D.str), true) else none
  | .startswith, .str a, [.str b] => some (.bool (PySem.Txt.startswith a b), false)
  | .endswith, .str a, [.str b] => some (.bool (PySem.Txt.endswith a b), false)
  | .removeprefix, .str a, [.str b] => if a.length ≤ sizeMax then some (.str (PySem.Txt.removeprefix a b), false) else none
  | .removesuffix, .str a, [.str b] => if a.length ≤ sizeMax then some (.str (PySem.Txt.removesuffix a b), false) else none
  | .isdigit, .str a, [] => some (.bool (PySem.Txt.isdigit a), false)
  | .find, .str a, [.str b] => some (.int (PySem.Txt.find a b), false)
  | _, _, _ => none
/-- methods that change a list or a dict: the answer, the object behind -/
def gdgO (g : Option D) (ds : List D) : Option DB := match g with
  | some (.dic kvs) => mthD .get (.dic kvs) ds
  | _ => none
def chgD : Cf → D → List D → Option (D × D)
  | .append, .lst xs, [d] => if xs.length < sizeMax then some (.none, .lst (xs ++ [d])) else none
  | .pop, .lst xs, [] => (xs[xs.length - 1]?).map fun y => (y, .lst xs.dropLast)
  | .pop, .lst xs, [.int i] => if -(2 ^ 63) ≤ i ∧ i < 2 ^ 63 then match L2.ixN xs.length i with
      | some k => (xs[k]?).map fun y => (y, .lst (xs.eraseIdx k))
      | none => none
      else none
  | .insert, .lst xs, [.int i, d] => if xs.length < sizeMax ∧ 0 ≤ i ∧ i < 2 ^ 63 then some (.none, .lst (xs.take i.toNat ++ d :: xs.drop i.toNat)) else none
  | .extend, .lst xs, [.lst ys] => if xs.length + ys.length ≤ sizeMax then some (.none, .lst (xs ++ ys)) else none
  | .extend, .lst xs, [.tup ys] => if xs.length + ys.length ≤ sizeMax then some (.none, .lst (xs ++ ys)) else none
  | .reverse, .lst xs, [] => some (.none, .lst xs.reverse)
  | .pop, .dic kvs, [k] => if k.key then (lookK kvs k).map fun v => (v, .dic (dropKD kvs k)) else none
  | .pop, .dic kvs, [k, d] => if k.key then some (match lookK kvs k with
      | some v => (v, .dic (dropKD kvs k))
      | none => (d, .dic kvs)) else none
  | _, _, _ => none
def setD (o i v : D) : Option D :=
  match o, i with
  | .lst xs, .int k => (L2.ixN xs.length k).map fun j => .lst (xs.set j v)
  | .dic kvs, k => if k.key ∧ kvs.length < sizeMax then some (.dic (putKD kvs k v)) else none
  | _, _ => none
/-- a field -/
def lookF : List (Str × D) → Str → Option D
  | [], _ => none
  | (g, v) :: r, f => if g = f then some v else lookF r f
def putFD (f : Str) (v : D) : List (Str × D) → List (Str × D)
  | [] => [(f, v)]
  | (g, x) :: r => if g = f then (g, v) :: r else (g, x) :: putFD f v r
def setFd (cs : List Str) (f : Str) (o v : D) : Option D := match o with
  | .obj c gs => if cs.contains c ∧ gs.length < 1000 then some (.obj c (putFD f v gs)) else none
  | _ => none
def atrO (cs : List Str) (f : Str) (ds : List D) : Option DB := match ds with
  | [.obj c gs] => if cs.contains c then (lookF gs f).map fun d => (d, false) else none
  | _ => none
/-- what the text's classes have: fields; (class, key of its __init__); (class, method, key) -/
structure Ct where
  an : List (Str × Str)
  cn : List (Str × Str)
  mn : List (Str × Str × Str)
  /-- own errors: (class, fields) -/
  xn : List (Str × List Str)
  /-- isinstance of an own error: (class, classes asked for, answer) -/
  xi : List (Str × List Str × Bool)
  /-- fields of own errors that are read -/
  xf : List (Str × Str)
  /-- own errors by except clauses: (class, clause, caught) -/
  xm : List (Str × Str × Bool)
  /-- own classes asked for by isinstance -/
  xo : List Str
  /-- own errors without an __init__ -/
  xz : List Str
  /-- properties: (class, name, key of the getter) -/
  pn : List (Str × Str × Str)
  /-- (class, key of its __add__) -/
  on : List (Str × Str)
/-- a field's value of an error -/
def atomB : D → Bool
  | .none | .bool _ | .int _ | .str _ => true
  | _ => false
/-- the key of a method by the object's class -/
def metK (cs : List (Str × Str)) (m : Str) (o : Option D) : Option Str := match o with
  | some (.obj c gs) => if (lookF gs m).isSome then none else cs.lookup c
  | _ => none
/-- two instances of one class -/
def sameC : D → D → Bool
  | .obj c _, .obj c' _ => decide (c = c')
  | _, _ => false
/-! ## the evaluator -/
/-- an argument: a value, or a name that is read as late as can be -/
inductive Ar where
  | v (d : D) | s (i : Nat)
def rdS : Sl → Option D
  | .fr d | .ow d => some d
  | .un | .xc _ => none
def rd1 (e : En) : Ar → Option D
  | .v d => some d
  | .s i => (e[i]?).bind rdS
def rd (e : En) : List Ar → Option (List D)
  | [] => some []
  | a :: r => (rd1 e a).bind fun d => (rd e r).map (d :: ·)
def isDef (e : En) (i : Nat) : Bool := match e[i]? with
  | some (.fr _) | some (.ow _) => true
  | _ => false
/-- the object that a value is: itself, or the store's -/
def der (st : Sto) : D → Option D
  | .loc n => st[n]?
  | d => some d
def knD (st : Sto) (d : D) : Option Kd := (der st d).bind kindD
/-- the kind of what a slot holds -/
def knS (e : En) (s : Sto) (i : Nat) : Option Kd := ((e[i]?).bind rdS).bind (knD s)
def knA (e : En) (s : Sto) (a : Ar) : Option Kd := (rd1 e a).bind (knD s)
def chgK : Cf → Kd → Bool
  | .pop, .dic => true
  | _, .lst => true
  | _, _ => false
def mtK (m : Mf) : Option Kd → Bool
  | some k => mthK m k
  | none => false
/-- .. of an object of this kind -/
def chgX (kd : Kd) (m : Cf) (x : D) (ds : List D) : Option (D × D) := if kindD x = some kd then chgD m x ds else none
/-- names whose lists others know from now on -/
def fz1 (e : En) (i : Nat) : En := match e[i]? with
  | some (.ow d) => e.set i (.fr d)
  | _ => e
def fz (e : En) : List Ar → En
  | [] => e
  | .v _ :: r => fz e r
  | .s i :: r => fz (fz1 e i) r
def ders (st : Sto) : List D → Option (List D)
  | [] => some []
  | d :: r => (der st d).bind fun x => (ders st r).map (x :: ·)
/-- the new own list as a store object, or as it is -/
def stow (l : Bool) (d : D) (e : En) (st : Sto) : R DB := if l then .ok (.loc st.length, false) e (st ++ [d]) else .ok (d, true) e st
/-- the arguments of a method that changes a list: looked through for extend -/
def argC (m : Cf) (s : Sto) (ds : List D) : Option (List D) := match m with
  | .extend => ders s ds
  | _ => some ds
def argM (m : Mf) (s : Sto) (ds : List D) : Option (List D) := match m with
  | .get => some ds
  | _ => ders s ds
def wipeE (e : En) : List Nat → En
  | [] => e
  | v :: vs => (wipeE e vs).set v .un
def compL (f : D → En → Sto → R (Option D)) : List D → List D → En → Sto → R (List D)
  | [], acc, e, s => .ok acc e s
  | x :: xs, acc, e, s => (f x e s).bind fun o e s => match o with
    | some d => if acc.length < sizeMax then compL f xs (acc ++ [d]) e s else .no
    | none => compL f xs acc e s
def compD (f : D → En → Sto → R (Option (D × D))) : List D → List (D × D) → En → Sto → R (List (D × D))
  | [], acc, e, s => .ok acc e s
  | x :: xs, acc, e, s => (f x e s).bind fun o e s => match o with
    | some d => if d.1.key ∧ acc.length < sizeMax then compD f xs (putKD acc d.1 d.2) e s else .no
    | none => compD f xs acc e s
def rangeL (a b : Int) : List D := (List.range (b - a).toNat).map fun i => D.int (a + (i : Nat))
def numL : Int → List D → List D
  | _, [] => []
  | k, x :: r => D.tup [.int k, x] :: numL (k + 1) r
def small62 (a : Int) : Bool := decide (-(2 ^ 62) ≤ a ∧ a < 2 ^ 62)
def itemsD : D → Option (List D)
  | .lst xs | .tup xs => some xs
  | .str z => some (z.cps.toList.map fun c => D.str ⟨#[c]⟩)
  | _ => none
/-- a new value bound to a name -/
def putN (e : En) (i : Nat) (d : DB) : En := e.set i (if d.2 then .ow d.1 else .fr d.1)
def forL (f : D → En → Sto → R O) : List D → En → Sto → R O
  | [], e, s => .ok .nx e s
  | x :: xs, e, s => (f x e s).bind fun o e s => match o with
    | .nx | .ct => forL f xs e s
    | .bk => .ok .nx e s
    | .rt d w => .ok (.rt d w) e s
def whlL (c : En → Sto → R Bool) (f : En → Sto → R O) : Nat → En → Sto → R O
  | 0, _, _ => .no
  | n + 1, e, s => (c e s).bind fun b e s => if b then (f e s).bind fun o e s => match o with
      | .nx | .ct => whlL c f n e s
      | .bk => .ok .nx e s
      | .rt d w => .ok (.rt d w) e s
    else .ok .nx e s
def fuel : Nat := 1000000000000
def immK : List (D × D) → Bool
  | [] => true
  | (_, b) :: r => b.imm && immK r
def immF : List (Str × D) → Bool
  | [] => true
  | (_, b) :: r => b.imm && immF r
/-- an object of such things -/
def immH : D → Bool
  | .lst xs => immL xs
  | .dic kvs => immK kvs
  | .obj _ fs => immF fs
  | _ => false
def tight (d : D) (own : Bool) : Bool := d.imm || (own && immH d)

/-- an object of a slot changed: the slot's own, or the store's -/
def chgS (f : D → Option (D × D)) (i : Nat) (e : En) (s : Sto) : R DB :=
  match e[i]? with
  | some (.ow x) => match f x with
    | some (r, x') => .ok (r, false) (e.set i (.ow x')) s
    | none => .no
  | some (.fr (.loc n)) => match (s[n]?).bind f with
    | some (r, x') => .ok (r, false) e (s.set n x')
    | none => .no
  | _ => .no
def chgO (f : D → Option (D × D)) (d : D) (e : En) (s : Sto) : R DB :=
  match d with
  | .loc n => match (s[n]?).bind f with
    | some (r, x') => .ok (r, false) e (s.set n x')
    | none => .no
  | _ => .no
/-- the arguments' values, the objects behind them -/
def opR (e : En) (s : Sto) (as : List Ar) (f : List D → R DB) : R DB :=
  match (rd e as).bind (ders s) with
  | some ds => f ds
  | none => .no
def binO (op : Operator) (ds : List D) : Option DB := match ds with
  | [x, y] => binD op x y
  | _ => none
def subO (ds : List D) : Option DB := match ds with
  | [x, y] => (subD x y).map fun d => (d, false)
  | _ => none
/-- a slice: 0 no bound, 1 the lower, 2 the upper, 3 both; 4 backwards -/
def slcO (k : Nat) (ds : List D) : Option DB := match k, ds with
  | 0, [x] => slcD x none none
  | 1, [x, .int i] => slcD x (some i) none
  | 2, [x, .int i] => slcD x none (some i)
  | 3, [x, .int i, .int j] => slcD x (some i) (some j)
  | 4, [.lst xs] => some (.lst xs.reverse, true)
  | _, _ => none
def cmpO (op : CmpOp) (s : Sto) (ds : List D) : Option Bool := match ds with
  | [x, y] => (der s x).bind fun x => (der s y).bind fun y => cmpD op x y
  | _ => none
/-- the unlike ones -/
def dst : List Int → List Int
  | [] => []
  | x :: xs => if x ∈ xs then dst xs else x :: dst xs
/-- 0: the values of a dict; 1: how many unlike ints -/
def vlsO (m : Nat) (ds : List D) : Option DB := match m, ds with
  | 0, [.dic kvs] => some (.lst (kvs.map (·.2)), true)
  | 1, [.tup xs] => (intsD xs).bind fun is => if is.length ≤ 4000 then some (.int ((dst is).length : Nat), false) else none
  | _, _ => none
/-- keys, pairs, values -/
def dkL (m : Nat) (kvs : List (D × D)) : List D := match m with
  | 0 => kvs.map (·.1)
  | 1 => kvs.map fun p => .tup [p.1, p.2]
  | _ => kvs.map (·.2)
def omap (g : D → Option D) : List D → Option (List D)
  | [] => some []
  | x :: xs => (g x).bind fun y => (omap g xs).map (y :: ·)
def omapK (g : D → Option D) : List (D × D) → Option (List (D × D))
  | [] => some []
  | (c, x) :: xs => (g x).bind fun y => (omapK g xs).map ((c, y) :: ·)
def omapF (g : D → Option D) : List (Str × D) → Option (List (Str × D))
  | [] => some []
  | (c, x) :: xs => (g x).bind fun y => (omapF g xs).map ((c, y) :: ·)
/-- a value with what the store's objects hold in their places -/
def rsv : Nat → Sto → D → Option D
  | 0, _, _ => none
  | k + 1, st, .tup xs => (omap (rsv k st) xs).map .tup
  | k + 1, st, .lst xs => (omap (rsv k st) xs).map .lst
  | k + 1, st, .dic xs => (omapK (rsv k st) xs).map .dic
  | k + 1, st, .obj c xs => (omapF (rsv k st) xs).map (.obj c)
  | k + 1, st, .loc n => match st[n]? with
    | some d => rsv k st d
    | none => none
  | _ + 1, _, d => some d
/-- a call: pure (no store object goes in or out), or with the store -/
def callP (r : Option (Rv × Sto)) (e : En) (as : List Ar) (s : Sto) : R DB := match r with
  | some (.rt d w, s') => if tight d w then .ok (d, w) e s else if d.nol then .ok (d, w) (fz e as) s else match rsv 8 s' d with
    | some d' => .ok (d', false) (fz e as) s
    | none => .no
  | some (.rx x, _) => if x.fs.all (fun p => atomB p.2) then .ex x e s else .no
  | none => .no
def callS (r : Option (Rv × Sto)) (e : En) (as : List Ar) : R DB := match r with
  | some (.rt d w, s') => .ok (d, w) (fz e as) s'
  | some (.rx x, s') => .ex x (fz e as) s'
  | none => .no
/-- a new instance: frozen later, or the store's -/
def newP (c : Str) (r : Option (Rv × Sto)) (e : En) (as : List Ar) (s : Sto) : R DB := match r with
  | some (.rt .none _, .obj c' fs :: _) => if c' = c then (if immF fs then .ok (.obj c' fs, true) e s else if nolF fs then .ok (.obj c' fs, true) (fz e as) s else .no) else .no
  | some (.rx x, _) => if x.fs.all (fun p => atomB p.2) then .ex x e s else .no
  | _ => .no
def newS (n : Nat) (r : Option (Rv × Sto)) (e : En) (as : List Ar) : R DB := match r with
  | some (.rt .none _, s') => .ok (.loc n, false) (fz e as) s'
  | some (.rx x, s') => .ex x (fz e as) s'
  | _ => .no
def boolR (o : Option Bool) (e : En) (s : Sto) : R DB := match o with
  | some b => .ok (.bool b, false) e s
  | none => .no
def iff (d : DB) (t f : R DB) : R DB := match d.1 with
  | .bool true => t
  | .bool false => f
  | _ => .no

def tsLen : Ts → Nat
  | .nil => 0
  | .cons _ r => tsLen r + 1
mutual
def ev (B : Tab) (G : Glb) : E → En → Sto → R DB
  | .int i, e, s => .ok (.int i, false) e s
  | .str x, e, s => .ok (.str x, false) e s
  | .bl b, e, s => .ok (.bool b, false) e s
  | .non, e, s => .ok (.none, false) e s
  | .var i, e, s => match e[i]? with
    | some (.fr d) => .ok (d, false) e s
    | some (.ow d) => .ok (d, false) (e.set i (.fr d)) s
    | _ => .no
  | .gl x, e, s => .of ((G x).bind noDic) e s
  | .bin op es, e, s => (ag B G es e s).bind fun as e s => opR e s as fun ds => .of (binO op ds) e s
  | .neg a, e, s => (ev B G a e s).bind fun d e s => match d.1 with
    | .int i => .ok (.int (-i), false) e s
    | _ => .no
  | .not a, e, s => (ev B G a e s).bind fun d e s => iff d (.ok (.bool false, false) e s) (.ok (.bool true, false) e s)
  | .and es, e, s => evAnd B G es e s
  | .or es, e, s => evOr B G es e s
  | .ite c a b, e, s => (ev B G c e s).bind fun d e s => iff d (ev B G a e s) (ev B G b e s)
  | .cmp op es, e, s => (ag B G es e s).bind fun as e s => boolR ((rd e as).bind (cmpO op s)) e s
  | .chn o1 o2 es c, e, s => (ag B G es e s).bind fun as e s => match rd e as with
    | some [x, .int j] => match cmpD o1 x (.int j) with
      | some true => (ev B G c e s).bind fun z e s => boolR (cmpD o2 (.int j) z.1) e s
      | some false => .ok (.bool false, false) e s
      | none => .no
    | _ => .no
  | .tup es, e, s => (ag B G es e s).bind fun as e s => match rd e as with
    | some ds => if ds.length ≤ sizeMax then .ok (.tup ds, false) (fz e as) s else .no
    | none => .no
  | .lst l es, e, s => (ag B G es e s).bind fun as e s => match rd e as with
    | some ds => if ds.length ≤ sizeMax then stow l (.lst ds) (fz e as) s else .no
    | none => .no
  | .call p f es, e, s => (ag B G es e s).bind fun as e s => match rd e as with
    | some ds => if p then (if nolL ds then callP (B f ds []) e as s else .no) else callS (B f ds s) e as
    | none => .no
  | .blt f es, e, s => (ag B G es e s).bind fun as e s => opR e s as fun ds => .of (bltD f ds) e s
  | .mth m o es, e, s => (ag B G o e s).bind fun a e s => match a with
    | [x] => if mtK m (knA e s x) then (ag B G es e s).bind fun as e s => match rd e as, (rd1 e x).bind (der s) with
      | some ds, some d => (match argM m s ds with
        | some ds => .of (mthD m d ds) (fz e as) s
        | none => .no)
      | _, _ => .no
      else .no
    | _ => .no
  | .chv m i es, e, s => match knS e s i with
    | some kd => if chgK m kd then (ag B G es e s).bind fun as e s => match rd e as with
    | some ds => (match argC m s ds with
      | some ds => chgS (fun x => chgX kd m x ds) i (fz e as) s
      | none => .no)
    | none => .no
    else .no
    | none => .no
  | .cho m o es, e, s => (ev B G o e s).bind fun d e s => match knD s d.1 with
    | some kd => if chgK m kd then (ag B G es e s).bind fun as e s => match rd e as with
    | some ds => (match argC m s ds with
      | some ds => chgO (fun x => chgX kd m x ds) d.1 (fz e as) s
      | none => .no)
    | none => .no
    else .no
    | none => .no
  | .sub es, e, s => (ag B G es e s).bind fun as e s => opR e s as fun ds => .of (subO ds) e s
  | .slc k es, e, s => (ag B G es e s).bind fun as e s => opR e s as fun ds => .of (slcO k ds) e s
  | .slb es c, e, s => (ag B G es e s).bind fun as e s => match rd e as with
    | some [_, .int _] => (ev B G c e s).bind fun d e s => opR e s as fun ds => .of (slcO 3 (ds ++ [d.1])) e s
    | _ => .no
  | .dct l es, e, s => (ag B G es e s).bind fun as e s => match rd e as with
    | some ds => (match mkKD [] ds with
      | some kvs => if ds.length ≤ 30 then stow l (.dic kvs) (fz e as) s else .no
      | none => .no)
    | none => .no
  | .stt es c, e, s => (ag B G es e s).bind fun as e s => (ev B G c e s).bind fun d e s => match rd e as, d.1 with
    | some ds, .lst xs => if ds.length + xs.length ≤ sizeMax then .ok (.tup (ds ++ xs), false) (fz e as) s else .no
    | _, _ => .no
  | .gds x a, e, s => if gDic (G x) then (ev B G a e s).bind fun d e s => .of (gdsO (G x) d.1) e s else .no
  | .gdi n x a, e, s => if gDic (G x) then (ev B G a e s).bind fun d e s => .of (gdiO n (G x) d.1) e s else .no
  | .gdg x es, e, s => if gDic (G x) then (ag B G es e s).bind fun as e s => match rd e as with
    | some ds => .of (gdgO (G x) ds) (fz e as) s
    | none => .no
    else .no
  | .comp l elt t it c own, e, s => (its B G it e s).bind fun xs e s =>
    (R.nox (compL (fun x e s => (asg B G t (x, false) e s).bind fun _ e s => (evAnd B G c e s).bind fun b e s => match b.1 with
      | .bool true => (ev B G elt e s).bind fun d e s => .ok (some d.1) (wipeE e (own.map (·.2))) s
      | .bool false => .ok none (wipeE e (own.map (·.2))) s
      | _ => .no) xs [] (wipeE e (own.map (·.2))) s)).bind fun ds e s => stow l (.lst ds) e s
  | .cmo l elt t i c own, e, s => match e[i]? with
    | some (.ow (.lst xs)) => (R.nox (compL (fun x e s => (asg B G t (x, false) e s).bind fun _ e s => (evAnd B G c e s).bind fun b e s => match b.1 with
      | .bool true => (ev B G elt e s).bind fun d e s => .ok (some d.1) (wipeE e (own.map (·.2))) s
      | .bool false => .ok none (wipeE e (own.map (·.2))) s
      | _ => .no) xs [] (wipeE (e.set i .un) (own.map (·.2))) s)).bind fun ds e s => stow l (.lst ds) (e.set i (.ow (.lst xs))) s
    | _ => .no
  | .cmd l elt t i c own, e, s => match (fz1 e i)[i]? with
    | some (.fr (.dic kvs)) => (R.nox (compL (fun x e s => (asg B G t (x, false) e s).bind fun _ e s => (evAnd B G c e s).bind fun b e s => match b.1 with
      | .bool true => (ev B G elt e s).bind fun d e s => .ok (some d.1) (wipeE e (own.map (·.2))) s
      | .bool false => .ok none (wipeE e (own.map (·.2))) s
      | _ => .no) (dkL 0 kvs) [] (wipeE (fz1 e i) (own.map (·.2))) s)).bind fun ds e s => stow l (.lst ds) e s
    | _ => .no
  | .cms l elt t o c own, e, s => (ev B G o e s).bind fun d e s => match d.1 with
    | .loc n => (match s[n]? with
      | some (.lst xs) => (R.nox (compL (fun x e s => if isL s n xs then (asg B G t (x, false) e s).bind fun _ e s => (evAnd B G c e s).bind fun b e s => match b.1 with
        | .bool true => (ev B G elt e s).bind fun d e s => .ok (some d.1) (wipeE e (own.map (·.2))) s
        | .bool false => .ok none (wipeE e (own.map (·.2))) s
        | _ => .no
        else .no) xs [] (wipeE e (own.map (·.2))) s)).bind fun ds e s => if isL s n xs then stow l (.lst ds) e s else .no
      | _ => .no)
    | _ => .no
  | .dcm l k v t it c own, e, s => (its B G it e s).bind fun xs e s =>
    (R.nox (compD (fun x e s => (asg B G t (x, false) e s).bind fun _ e s => (evAnd B G c e s).bind fun b e s => match b.1 with
      | .bool true => (ev B G k e s).bind fun d e s => (ev B G v e s).bind fun d' e s => .ok (some (d.1, d'.1)) (wipeE e (own.map (·.2))) s
      | .bool false => .ok none (wipeE e (own.map (·.2))) s
      | _ => .no) xs [] (wipeE e (own.map (·.2))) s)).bind fun ds e s => stow l (.dic ds) e s
  | .atr cs f es, e, s => (ag B G es e s).bind fun as e s => opR e s as fun ds => .of (atrO cs f ds) e s
  | .mxd d es, e, s => (ag B G es e s).bind fun as e s => opR e s as fun ds => .of (mxdO d ds) e s
  | .isc c es, e, s => (ag B G es e s).bind fun as e s => opR e s as fun ds => .of (iscO c ds) e s
  | .new p c key es, e, s => (ag B G es e s).bind fun as e s => match rd e as with
    | some ds => if p then (if nolL ds then newP c (B key (.loc 0 :: ds) [.obj c []]) e as s else .no) else newS s.length (B key (.loc s.length :: ds) (s ++ [.obj c []])) e as
    | none => .no
  | .met p cs m o es, e, s => (ag B G o e s).bind fun a e s => match a with
    | [x] => (match metK cs m ((rd1 e x).bind (der s)) with
      | some key => (ag B G es e s).bind fun as e s => match rd e (x :: as) with
        | some ds => if p then (if nolL ds then callP (B key ds []) e (x :: as) s else .no) else callS (B key ds s) e (x :: as)
        | none => .no
      | none => .no)
    | _ => .no
  | .mov i, e, s => match e[i]? with
    | some (.fr d) => .ok (d, false) e s
    | some (.ow d) => .ok (d, true) (e.set i .un) s
    | _ => .no
  | .vls m es, e, s => (ag B G es e s).bind fun as e s => opR e s as fun ds => .of (vlsO m ds) e s
  | .xis i tp cs ys ns, e, s => match e[i]? with
    | some (.xc x) => if ys.contains x.c then .ok (.bool true, false) e s else if ns.contains x.c then .ok (.bool false, false) e s else .no
    | _ => .no
  | .xfl i cs f, e, s => match e[i]? with
    | some (.xc x) => if cs.contains x.c then (match lookF x.fs f with
      | some d => .ok (d, false) e s
      | none => .no) else .no
    | _ => .no
  | .lri it, e, s => (its B G it e s).bind fun xs e s => if xs.length ≤ sizeMax then .ok (.lst xs, true) e s else .no
  | .prp cs m es, e, s => (ag B G es e s).bind fun as e s => match rd e as with
    | some [x] => match metK cs m (some x) with
      | some key => if nolL [x] then R.nox (callP (B key [x] []) e as s) else .no
      | none => .no
    | _ => .no
  | .opm cs es, e, s => (ag B G es e s).bind fun as e s => match rd e as with
    | some [x, y] => match metK cs "__add__" (some x) with
      | some key => if sameC x y then (if nolL [x, y] then callP (B key [x, y] []) e as s else .no) else .no
      | none => .no
    | _ => .no
  | .nev, _, _ => .no
def evAnd (B : Tab) (G : Glb) : Es → En → Sto → R DB
  | .nil, e, s => .ok (.bool true, false) e s
  | .cons a .nil, e, s => ev B G a e s
  | .cons a (.cons b r), e, s => (ev B G a e s).bind fun d e s => iff d (evAnd B G (.cons b r) e s) (.ok (.bool false, false) e s)
def evOr (B : Tab) (G : Glb) : Es → En → Sto → R DB
  | .nil, _, _ => .no
  | .cons a .nil, e, s => ev B G a e s
  | .cons a (.cons b r), e, s => (ev B G a e s).bind fun d e s => iff d (.ok (.bool true, false) e s) (evOr B G (.cons b r) e s)
def ag (B : Tab) (G : Glb) : Es → En → Sto → R (List Ar)
  | .nil, e, s => .ok [] e s
  | .cons (.var i) r, e, s => if isDef e i then (ag B G r e s).bind fun as e s => .ok (.s i :: as) e s else .no
  | .cons a r, e, s => (ev B G a e s).bind fun d e s => (ag B G r e s).bind fun as e s => .ok (.v d.1 :: as) e s
def its (B : Tab) (G : Glb) : I → En → Sto → R (List D)
  | .it a, e, s => (ev B G a e s).bind fun d e s => match itemsD d.1 with
    | some xs => .ok xs e s
    | none => .no
  | .rg1 a, e, s => (ev B G a e s).bind fun d e s => match d.1 with
    | .int j => if small62 j then .ok (rangeL 0 j) e s else .no
    | _ => .no
  | .rg2 a b, e, s => (ev B G a e s).bind fun x e s => (ev B G b e s).bind fun y e s => match x.1, y.1 with
    | .int i, .int j => if small62 i && small62 j then .ok (rangeL i j) e s else .no
    | _, _ => .no
  | .rev a, e, s => (ev B G a e s).bind fun d e s => match d.1 with
    | .lst xs => .ok xs.reverse e s
    | .tup xs => .ok xs.reverse e s
    | _ => .no
  | .rv1 a, e, s => (ev B G a e s).bind fun d e s => match d.1 with
    | .int j => if small62 j then .ok (rangeL 0 j).reverse e s else .no
    | _ => .no
  | .rv2 a b, e, s => (ev B G a e s).bind fun x e s => (ev B G b e s).bind fun y e s => match x.1, y.1 with
    | .int i, .int j => if small62 i && small62 j then .ok (rangeL i j).reverse e s else .no
    | _, _ => .no
  | .zip a b, e, s => (ev B G a e s).bind fun x e s => (ev B G b e s).bind fun y e s => match x.1, y.1 with
    | .lst xs, .lst ys => .ok (List.zipWith (fun x y => D.tup [x, y]) xs ys) e s
    | .tup xs, .tup ys => .ok (List.zipWith (fun x y => D.tup [x, y]) xs ys) e s
    | _, _ => .no
  | .enu a, e, s => (ev B G a e s).bind fun d e s => match d.1 with
    | .lst xs => .ok (numL 0 xs) e s
    | .tup xs => .ok (numL 0 xs) e s
    | _ => .no
  | .ens a k, e, s => if small62 k then (ev B G a e s).bind fun d e s => match d.1 with
    | .tup xs => .ok (numL k xs) e s
    | _ => .no
    else .no
def asg (B : Tab) (G : Glb) : T → DB → En → Sto → R Unit
  | .nm i, d, e, s => if i < e.length then .ok () (putN e i d) s else .no
  | .tp ts, d, e, s => match d.1 with
    | .tup xs => if xs.length = tsLen ts then asgs B G ts xs e s else .no
    | _ => .no
  | .sbv n i, v, e, s => if isDef e n then (ev B G i e s).bind fun k e s => (chgS (fun x => (setD x k.1 v.1).map fun x' => (.none, x')) n e s).bind fun _ e s => .ok () e s
    else .no
  | .sbo o i, v, e, s => (ev B G o e s).bind fun d e s => (ev B G i e s).bind fun k e s => (chgO (fun x => (setD x k.1 v.1).map fun x' => (.none, x')) d.1 e s).bind fun _ e s => .ok () e s
def asgs (B : Tab) (G : Glb) : Ts → List D → En → Sto → R Unit
  | .nil, [], e, s => .ok () e s
  | .cons t ts, x :: xs, e, s => (asg B G t (x, false) e s).bind fun _ e s => asgs B G ts xs e s
  | _, _, _, _ => .no
end
/-- the caught error's slot -/
def unX : Sl → Sl
  | .xc _ => .un
  | s => s
def putX (e : En) (i : Option Nat) (x : Xc) : Option En := match i with
  | some i => if i < e.length then some ((e.map unX).set i (.xc x)) else none
  | none => some (e.map unX)
/-- .. goes -/
def outX (e : En) (i : Option Nat) : En := match i with
  | some i => (e.map unX).set i .un
  | none => e.map unX
def evB (B : Tab) (G : Glb) (c : E) (e : En) (s : Sto) : R Bool := (ev B G c e s).bind fun d e s => match d.1 with
  | .bool b => .ok b e s
  | _ => .no
/-- name op= value: ints, texts -/
def augD (op : Operator) (a b : D) : Option D :=
  match op, a, b with
  | .Add, .int i, .int j => some (.int (i + j))
  | .Sub, .int i, .int j => some (.int (i - j))
  | .Add, .str x, .str y => if x.length + y.length ≤ sizeMax then some (.str (x ++ y)) else none
  | _, _, _ => none
mutual
def xS (B : Tab) (G : Glb) : S → En → Sto → R O
  | .sav n cs f a, e, s => (ev B G a e s).bind fun d e s => if isDef e n then (chgS (fun x => (setFd cs f x d.1).map fun x' => (.none, x')) n e s).bind fun _ e s => .ok .nx e s else .no
  | .sao o cs f a, e, s => (ev B G a e s).bind fun d e s => (ev B G o e s).bind fun x e s => (chgO (fun x => (setFd cs f x d.1).map fun x' => (.none, x')) x.1 e s).bind fun _ e s => .ok .nx e s
  | .exp a, e, s => (ev B G a e s).bind fun _ e s => .ok .nx e s
  | .set t a, e, s => (ev B G a e s).bind fun d e s => (asg B G t d e s).bind fun _ e s => .ok .nx e s
  | .aug i op a, e, s => match e[i]? with
    | some (.fr x) => (ev B G a e s).bind fun d e s => match augD op x d.1 with
      | some r => .ok .nx (putN e i (r, false)) s
      | none => .no
    | _ => .no
  | .ifs c a b, e, s => (evB B G c e s).bind fun d e s => if d then xL B G a e s else xL B G b e s
  | .whl c b, e, s => whlL (fun e s => evB B G c e s) (fun e s => xL B G b e s) fuel e s
  | .for_ t it b, e, s => (its B G it e s).bind fun xs e s => forL (fun x e s => (asg B G t (x, false) e s).bind fun _ e s => xL B G b e s) xs e s
  | .fds t i j b, e, s => match (fz1 e i)[i]?, (fz1 e i)[j]? with
    | some (.fr (.lst ds)), some (.fr (.int n)) => (match L2.atI ds n with
      | some (.dic kvs) => R.nox (forL (fun x e s => (asg B G t (x, false) e s).bind fun _ e s => xL B G b e s) (dkL 0 kvs) (fz1 e i) s)
      | _ => .no)
    | _, _ => .no
  | .fos t o b, e, s => (ev B G o e s).bind fun d e s => match d.1 with
    | .loc n => (match s[n]? with
      | some (.lst xs) => (forL (fun x e s => if isL s n xs then (asg B G t (x, false) e s).bind fun _ e s => xL B G b e s else .no) xs e s).bind fun o e s => match o with
        | .nx => if isL s n xs then .ok .nx e s else .no
        | o => .ok o e s
      | _ => .no)
    | _ => .no
  | .ret a, e, s => (ev B G a e s).bind fun d e s => .ok (.rt d.1 d.2) e s
  | .retN, e, s => .ok (.rt .none false) e s
  | .brk, e, s => .ok .bk e s
  | .cnt, e, s => .ok .ct e s
  | .pas, e, s => .ok .nx e s
  | .nev, _, _ => .no
  | .rse c fs es, e, s => (ag B G es e s).bind fun as e s => match rd e as with
    | some ds => if ds.length = fs.length ∧ ds.all atomB = true then .ex ⟨c, (fs.zip ds).reverse⟩ (fz e as) s else .no
    | none => .no
  | .fdk t m i b, e, s => match (fz1 e i)[i]? with
    | some (.fr (.dic kvs)) => R.nox (forL (fun x e s => (asg B G t (x, false) e s).bind fun _ e s => xL B G b e s) (dkL m kvs) (fz1 e i) s)
    | _ => .no
  | .trx i cn ys ns b c, e, s => match xL B G b e s with
    | .ok o e s => .ok o e s
    | .ex x e s => if ys.contains x.c then (if x.fs.all (fun p => atomB p.2) then (match putX e i x with
        | some e => (match xL B G c e s with
          | .ok o e s => .ok o (outX e i) s
          | _ => .no)
        | none => .no) else .no)
      else if ns.contains x.c then .ex x e s else .no
    | .no => .no
def xL (B : Tab) (G : Glb) : Ss → En → Sto → R O
  | .nil, e, s => .ok .nx e s
  | .cons a r, e, s => (xS B G a e s).bind fun o e s => match o with
    | .nx => xL B G r e s
    | o => .ok o e s
end
/-- a def: its number of slots, its parameters, its body -/
structure Df where
  np : Nat
  ns : Nat
  body : Ss
def runD (B : Tab) (G : Glb) (d : Df) (ds : List D) (s : Sto) : Option (Rv × Sto) :=
  if ds.length = d.np ∧ d.np ≤ d.ns then
    match xL B G d.body (ds.map Sl.fr ++ List.replicate (d.ns - d.np) Sl.un) s with
    | .ok .nx _ s => some (.rt .none false, s)
    | .ok (.rt x w) _ s => some (.rt x w, s)
    | .ex x _ s => some (.rx x, s)
    | _ => none
  else none
/-- the defs by levels -/
def tab (P : Str → Option Df) (G : Glb) : Nat → Tab
  | 0, _, _, _ => none
  | k + 1, f, ds, s => match P f with
    | some d => runD (tab P G k) G d ds s
    | none => none
end Pv
namespace Pv
open PySem PySem.Spec PyProof.Rows L2
/-- the j-th statement of a class -/
def clsAt (s : Stmt) (j : Nat) : Stmt := match s with
  | .ClassDef _ _ _ body _ _ _ _ _ _ _ => body.getD j (.Pass ⟨0, 0, 0, 0⟩)
  | _ => .Pass ⟨0, 0, 0, 0⟩
def glbOf (l : List (Str × D)) : Glb := fun x => l.lookup x
mutual
/-- a value of the heap, looked through -/
def gvB (K : PySem.W.Frag) : D → Value → Bool
  | .int j, v => match v with
    | .int i _ => decide (i = j)
    | _ => false
  | .str y, v => match v with
    | .str x _ => decide (x = y)
    | _ => false
  | .bool c, v => match v with
    | .bool b => b == c
    | _ => false
  | .none, v => match v with
    | .none => true
    | _ => false
  | .tup ds, v => match v with
    | .ref p => (match K.lookup p with
      | some ⟨.type c, _, .seq us _, _⟩ => decide (c = "tuple") && us.toList.length.ble 1000 && gvsB K ds us.toList
      | _ => false)
    | _ => false
  | .lst ds, v => match v with
    | .ref p => (match K.lookup p with
      | some ⟨.type c, none, .seq us _, sl⟩ => decide (c = "list") && sl.isEmpty && us.toList.length.ble 1000 && gvsB K ds us.toList
      | _ => false)
    | _ => false
  | _, _ => false
def gvsB (K : PySem.W.Frag) : List D → List Value → Bool
  | [], l => l.isEmpty
  | d :: ds, l => match l with
    | u :: us => gvB K d u && gvsB K ds us
    | [] => false
end
/-- a constant of the module -/
def gB (K : PySem.W.Frag) (x : Str) (d : D) : Bool := match PySem.W.nsIn K mainGlobals x with
  | some (some u) => gvB K d u
  | _ => false
/-- a dict of the module -/
def esB (K : PySem.W.Frag) : List DictEntry → List (D × D) → Bool
  | [], l => l.isEmpty
  | e :: r, l => match e.key, l with
    | .str x _, (.str y, d) :: rs => decide (x = y) && gvB K d e.val && esB K r rs
    | .int i _, (.int j, d) :: rs => decide (i = j) && gvB K d e.val && esB K r rs
    | _, _ => false
def gdB (K : PySem.W.Frag) (p : Addr) (kvs : List (D × D)) : Bool := match K.lookup p with
  | some ⟨_, _, .dict es _, _⟩ => esB K es.toList kvs
  | _ => false
/-- a dict of the module, its keys ints -/
def giB (K : PySem.W.Frag) (p : Addr) (kvs : List (D × D)) : Bool := match K.lookup p with
  | some ⟨.type c, none, .dict es _, sl⟩ => decide (c = "dict") && sl.isEmpty && !(p == sysModules) && es.toList.all (fun e => match e.key with
    | .int i _ => e.hash == hashInt i
    | _ => false) && esB K es.toList kvs
  | _ => false
abbrev AlP : Type := (He.AlT × Bool) × List He.FnW
/-- addresses not yet seen, the seen ones kept in a number's bits -/
def addB {β : Type} : List Addr → Nat → List Addr → (Nat → List Addr → β) → β
  | [], seen, acc, k => k seen acc
  | b :: bs, seen, acc, k => match Nat.beq (Nat.land (Nat.shiftRight seen b) 1) 0 with
    | true => addB bs (Nat.lor seen (Nat.shiftLeft 1 b)) (b :: acc) k
    | false => addB bs seen acc k
def addF {β : Type} (g : Addr → Option Obj) : List Addr → Nat → List Addr → (Nat → List Addr → β) → β
  | [], seen, acc, k => k seen acc
  | a :: as, seen, acc, k => match g a with
    | some o => addB (He.refsD o) seen acc fun s ac => addF g as s ac k
    | none => addF g as seen acc k
def asX (g : Addr → Option Obj) : Nat → List Addr → Nat → List Addr → List Addr
  | 0, _, _, all => all
  | n + 1, fr, seen, all => addF g fr seen [] fun s new => asX g n new s (new ++ all)
def asP (g : Addr → Option Obj) (n : Nat) : List Addr := asX g n [mainGlobals] (Nat.shiftLeft 1 mainGlobals) [mainGlobals]
/-! properties -/
def pqA (K : PySem.W.Frag) (c m : Str) : Addr := match PySem.W.findIn K (.ref (He.ga K c)) m with
  | some (some (.ref q)) => q
  | _ => 0
/-- the getter -/
def pgA (K : PySem.W.Frag) (c m : Str) : Addr := match PySem.W.recIn K (pqA K c m) "property" with
  | some (.ref g :: _) => g
  | _ => 0
structure PrD where
  cls : Str
  prop : Str
  name : Str
  qual : Str
  params : Arguments
  body : List Stmt
  scope : Scope
def PrD.val (d : PrD) : He.FnW := some (d.name, d.qual, d.params, .stmts d.body, d.scope, mainGlobals, [], builtinsNs)
def fnA (K : PySem.W.Frag) (a : Addr) : He.FnW := match K.lookup a with
  | some ⟨_, _, .func fd, _⟩ => some (fd.name, fd.qualname, fd.params, fd.body, fd.scope, fd.globals, fd.closure, fd.builtins)
  | _ => none
def PrD.ok (K : PySem.W.Frag) (d : PrD) : Bool := PySem.W.keepIn K (.ref (pgA K d.cls d.prop)) && ((match K.lookup (pgA K d.cls d.prop) with
  | some ⟨_, _, .func fd, _⟩ => PySem.W.codeIn K fd.code d.qual && (He.dflB K fd.defaults [] && He.kwdB K fd.kwdefaults [])
  | _ => false) && ((He.Fa.glo d.cls).ok K && ((He.Fa.cls d.cls).ok K && (He.eqO (PySem.W.findIn K (.ref (He.ga K d.cls)) d.prop) (some (some (.ref (pqA K d.cls d.prop)))) &&
  (He.eqO (PySem.W.specialIn K (.ref (pqA K d.cls d.prop)) "__get__") (some (some (.builtin "property.__get__"))) && (decide (PySem.W.takesIn K (.ref (pqA K d.cls d.prop)) = some true) && (match PySem.W.recIn K (pqA K d.cls d.prop) "property" with
  | some (.ref _ :: _) => true
  | _ => false)))))))
theorem PrD.funD {K : PySem.W.Frag} {d : PrD} (e : fnA K (pgA K d.cls d.prop) = d.val) (c : d.ok K = true) : ∃ fd, FunD K d.name d.qual d.params d.body d.scope [] [] (pgA K d.cls d.prop) fd := by
  obtain ⟨kp, c2⟩ := He.ba c
  obtain ⟨c2, _⟩ := He.ba c2
  unfold fnA at e
  cases q : K.lookup (pgA K d.cls d.prop) with
  | none =>
    rw [q] at c2
    cases c2
  | some o =>
    obtain ⟨oc, od, dt, osl⟩ := o
    rw [q] at c2 e
    cases dt with
    | func fd =>
      obtain ⟨n1, n2, n3, n4, n5, n6, n7, n8, n9, n10, n11, n12, n13, n14, n15⟩ := fd
      have e2 : (some (n1, n2, n3, n4, n5, n6, n7, n15) : He.FnW) = some (d.name, d.qual, d.params, .stmts d.body, d.scope, mainGlobals, [], builtinsNs) := e
      simp only [Option.some.injEq, Prod.mk.injEq] at e2
      obtain ⟨h1, h2, h3, h4, h5, h6, h7, h8⟩ := e2
      subst h1 h2 h3 h4 h5 h6 h7 h8
      have c3 : (PySem.W.codeIn K n13 d.qual && (He.dflB K n8 [] && He.kwdB K n9 [])) = true := c2
      obtain ⟨k1, k2⟩ := He.ba c3
      obtain ⟨k3, k4⟩ := He.ba k2
      exact ⟨_, ⟨oc, od, n8, n9, n10, n11, n12, n13, n14, osl, rfl, q, k1, He.dflB_ok k3, He.kwdB_ok k4⟩, kp⟩
    | _ => cases c2
theorem PrD.prop_of {K : PySem.W.Frag} {d : PrD} (c : d.ok K = true) : (He.Fa.glo d.cls).ok K = true ∧ (He.Fa.cls d.cls).ok K = true ∧ PropOf K (He.ga K d.cls) d.prop (pqA K d.cls d.prop) (pgA K d.cls d.prop) := by
  obtain ⟨_, c⟩ := He.ba c
  obtain ⟨_, c⟩ := He.ba c
  obtain ⟨c0, c⟩ := He.ba c
  obtain ⟨c1, c⟩ := He.ba c
  obtain ⟨c2, c⟩ := He.ba c
  obtain ⟨c3, c⟩ := He.ba c
  obtain ⟨c4, c5⟩ := He.ba c
  refine ⟨c0, c1, He.eqO_ok c2, He.eqO_ok c3, of_decide_eq_true c4, ?_⟩
  unfold pgA
  split at c5 <;> try cases c5
  rename_i g rest hr
  rw [hr]
  exact ⟨rest, rfl⟩
def obsP (n : Nat) (fa : List He.Fa) (fn : List He.DefD) (ts : List He.Tab) (ex : PySem.W.Frag → Bool) (pr : List PrD) (g : Addr → Option Obj) : AlP :=
  ((He.obsT fa fn ts (He.frG g (asP g n)), ex (He.frG g (asP g n)) && pr.all fun d => d.ok (He.frG g (asP g n))), pr.map fun d => fnA (He.frG g (asP g n)) (pgA (He.frG g (asP g n)) d.cls d.prop))
def valP (fn : List He.DefD) (ts : List He.Tab) (pr : List PrD) (w : World) : AlP := ((He.valT fn ts w, true), pr.map PrD.val)
structure SaysP (fa : List He.Fa) (fn : List He.DefD) (ts : List He.Tab) (ex : PySem.W.Frag → Bool) (pr : List PrD) (w : World) (K : PySem.W.Frag) : Prop where
  t : He.SaysT fa fn ts w K
  both : (ex K && pr.all fun d => d.ok K) = true
  vals : (pr.map fun d => fnA K (pgA K d.cls d.prop)) = pr.map PrD.val
def hookP (n : Nat) (fa : List He.Fa) (fn : List He.DefD) (ts : List He.Tab) (ex : PySem.W.Frag → Bool) (pr : List PrD) : PySem.W.Hook where
  α := AlP
  obs := fun s => obsP n fa fn ts ex pr s.heap.get?
  val := fun w => valP fn ts pr w
  says := fun w h => ∃ K : PySem.W.Frag, K.In h ∧ SaysP fa fn ts ex pr w K
  of := fun _ _ e => ⟨_, He.frG_in, congrArg (fun z : AlP => z.1.1) e, congrArg (fun z : AlP => z.1.2) e, congrArg (fun z : AlP => z.2) e⟩
  keeps := fun _ _ _ ⟨K, hK, c⟩ k => ⟨K, PySem.W.Frag.In.keeps hK k, c⟩
theorem obsP_eq {n : Nat} {fa : List He.Fa} {fn : List He.DefD} {ts : List He.Tab} {ex : PySem.W.Frag → Bool} {pr : List PrD} {g : Addr → Option Obj} {s : Shared} (h : ∀ a, g a = s.heap.get? a) : obsP n fa fn ts ex pr g = (hookP n fa fn ts ex pr).obs s := by
  have e : g = s.heap.get? := funext h
  rw [e] <;> rfl
theorem SaysP.more {fa : List He.Fa} {fn : List He.DefD} {ts : List He.Tab} {ex : PySem.W.Frag → Bool} {pr : List PrD} {w : World} {K : PySem.W.Frag} (c : SaysP fa fn ts ex pr w K) : ex K = true := (He.ba c.both).1
theorem SaysP.prop {fa : List He.Fa} {fn : List He.DefD} {ts : List He.Tab} {ex : PySem.W.Frag → Bool} {pr : List PrD} {w : World} {K : PySem.W.Frag} (c : SaysP fa fn ts ex pr w K) (i : Nat) {d : PrD} (h : pr[i]? = some d) :
    (∃ fd, FunD K d.name d.qual d.params d.body d.scope [] [] (pgA K d.cls d.prop) fd) ∧ (He.Fa.glo d.cls).ok K = true ∧ (He.Fa.cls d.cls).ok K = true ∧ PropOf K (He.ga K d.cls) d.prop (pqA K d.cls d.prop) (pgA K d.cls d.prop) := by
  have c2 := List.all_eq_true.mp (He.ba c.both).2 d (List.mem_of_getElem? h)
  have e2 : (pr.map fun d => fnA K (pgA K d.cls d.prop))[i]? = (pr.map PrD.val)[i]? := by rw [c.vals]
  rw [List.getElem?_map, List.getElem?_map, h] at e2
  exact ⟨PrD.funD (Option.some.inj e2) c2, PrD.prop_of c2⟩
theorem SaysP.fact {fa : List He.Fa} {fn : List He.DefD} {ts : List He.Tab} {ex : PySem.W.Frag → Bool} {pr : List PrD} {w : World} {K : PySem.W.Frag} (c : SaysP fa fn ts ex pr w K) (i : Nat) {f : He.Fa} (h : fa[i]? = some f) : f.ok K = true := He.SaysD.fact (He.SaysT.d c.t) i h
theorem SaysP.def_ {fa : List He.Fa} {fn : List He.DefD} {ts : List He.Tab} {ex : PySem.W.Frag → Bool} {pr : List PrD} {w : World} {K : PySem.W.Frag} (c : SaysP fa fn ts ex pr w K) (i : Nat) {d : He.DefD} (h : fn[i]? = some d) : ∃ fd, FunD K d.name d.qual d.params d.body d.scope (d.dvs K) (d.kws K) (He.fAd K d.at_) fd := He.SaysD.def_ (He.SaysT.d c.t) i h
theorem SaysP.facts {fa : List He.Fa} {fn : List He.DefD} {ts : List He.Tab} {ex : PySem.W.Frag → Bool} {pr : List PrD} {w : World} {K : PySem.W.Frag} (c : SaysP fa fn ts ex pr w K) {f : He.Fa} (h : f ∈ fa) : f.ok K = true := by
  obtain ⟨i, hi, e⟩ := List.mem_iff_getElem.mp h
  exact c.fact i (f := f) (by rw [List.getElem?_eq_getElem hi, e])
def oexB (K : PySem.W.Frag) (C : Addr) : Bool := (match K.lookup C with
  | some ⟨.type "type", _, .cls cd, sl⟩ => (match cd.mro, sl.toList with
    | .ref C' :: bm, [_, _, _, _, some (.builtin n), _] => C' == C && n == "ValueError.__new__" && !cd.hasDel && cd.hasDict && PySem.HandSPX.refsVE bm
    | _, _ => false)
  | _ => false) && (He.eqO (PySem.W.findIn K (.ref C) "__setattr__") (some (some (.builtin "object.__setattr__"))) && (decide (PySem.W.subIn K (.ref C) (.type "BaseException") = some true) && (decide (PySem.W.typeIn K (.ref C) = some (.type "type")) && PySem.W.keepIn K (.ref C))))
def excB (K : PySem.W.Frag) (D : Addr) : Bool := He.eqO (PySem.W.findIn K (.ref D) "__getattribute__") (some (some (.builtin "BaseException.__getattribute__"))) && (He.eqO (PySem.W.findIn K (.ref D) "__getattr__") (some none) && (decide (PySem.W.subIn K (.ref D) (.type "BaseException") = some true) && (PySem.W.hasDictIn K D &&
  (He.eqO (PySem.W.findIn K (.ref D) "__class__") (some (some (.builtin "object.__class__"))) && (He.eqO (PySem.W.specialIn K (.builtin "object.__class__") "__get__") (some (some (.builtin "getset_descriptor.__get__"))) && (decide (PySem.W.takesIn K (.builtin "object.__class__") = some true) && decide (PySem.W.mroIn K D (.type "object") = some true)))))))
/-- a class by its name -/
def cvOf (K : PySem.W.Frag) (t : Str) : Option Value := match PySem.W.nsIn K mainGlobals t with
  | some (some (.ref a)) => some (.ref a)
  | some none => if t = "__name__" then none else (match bootBuiltins t with
    | some (.type n) => some (.type n)
    | _ => none)
  | _ => none
def cvsOf (K : PySem.W.Frag) : List Str → Option (List Value)
  | [] => some []
  | t :: r => (cvOf K t).bind fun c => (cvsOf K r).map (c :: ·)
/-- the name of a class -/
def gloB (K : PySem.W.Frag) (c : Str) : Bool := He.eqO (PySem.W.nsIn K mainGlobals c) (some (some (.ref (He.ga K c))))
def optB {α : Type} [DecidableEq α] (a : Option α) (b : α) : Bool := match a with
  | some x => decide (x = b)
  | none => false
def insB (K : PySem.W.Frag) (c : Str) : Bool := (He.Fa.cls c).ok K && (He.eqO (PySem.W.findIn K (.ref (He.ga K c)) "__class__") (some (some (.builtin "object.__class__"))) && (He.eqO (PySem.W.specialIn K (.builtin "object.__class__") "__get__") (some (some (.builtin "getset_descriptor.__get__"))) &&
  (decide (PySem.W.takesIn K (.builtin "object.__class__") = some true) && (decide (PySem.W.mroIn K (He.ga K c) (.type "object") = some true) && decide (PySem.W.kitOne K (.ref (He.ga K c)) (.ref (He.ga K c)) = some true)))))
def xcB (K : PySem.W.Frag) (ct : Ct) : Bool :=
  ct.xi.all (fun p => gloB K p.1 && (excB K (He.ga K p.1) && (match cvsOf K p.2.1 with
    | some cvs => optB (PySem.W.kitAny K (.ref (He.ga K p.1)) cvs) p.2.2
    | none => false))) &&
  (ct.xf.all (fun p => gloB K p.1 && (xfB K (He.ga K p.1) && He.eqO (PySem.W.findIn K (.ref (He.ga K p.1)) p.2) (some none))) &&
  (ct.xm.all (fun p => gloB K p.1 && (match cvOf K p.2.1 with
    | some cv => optB (PySem.W.exmOne K (.ref (He.ga K p.1)) cv) p.2.2
    | none => false)) &&
  (ct.xo.all (fun c => gloB K c && insB K c) &&
  ct.xz.all (fun c => gloB K c && (He.Fa.exc c).ok K))))
/-- the classes with an __add__ -/
def onB (K : PySem.W.Frag) (ct : Ct) : Bool := ct.on.all fun p => PySem.W.selfFirst K (He.ga K p.1)
/-- an own error that stores its arguments -/
def xnB (K : PySem.W.Frag) (c : Str) (fs : List Str) : Bool := gloB K c && (oexB K (He.ga K c) && (He.eqO (PySem.W.findIn K (.ref (He.ga K c)) "__init__") (some (some (.ref (He.ma K (He.ga K c) "__init__")))) &&
  (decide (PySem.W.typeIn K (.ref (He.ma K (He.ga K c) "__init__")) = some (.type "function")) && fs.all (fun f => He.eqO (PySem.W.findIn K (.ref (He.ga K c)) f) (some none)))))
end Pv
namespace Lk60
open PySem PySem.Spec PyProof.Rows L2 Pv
def top (i : Nat) : Stmt := PySem.Challenge.pw_sameruns_k60_join_brackets.main.body.getD i (.Pass ⟨0, 0, 0, 0⟩)
/-- Object.__init__(self, words, functions, data, needs, places, marks): 0=self 1=words 2=functions 3=data 4=needs 5=places 6=marks -/
abbrev sx_Object_init : Stmt := clsAt (top 2) 0
def ns_Object_init : List Str := ["self", "words", "functions", "data", "needs", "places", "marks"]
def df_Object_init : Df := ⟨7, 7, (.cons (.sav 0 ["Object"] "words" (.var 1)) (.cons (.sav 0 ["Object"] "functions" (.var 2)) (.cons (.sav 0 ["Object"] "data" (.var 3)) (.cons (.sav 0 ["Object"] "needs" (.var 4)) (.cons (.sav 0 ["Object"] "places" (.var 5)) (.cons (.sav 0 ["Object"] "marks" (.var 6)) .nil))))))⟩
/-- Object.parts(self): 0=self -/
abbrev sx_Object_parts : Stmt := clsAt (top 2) 1
def ns_Object_parts : List Str := ["self"]
def df_Object_parts : Df := ⟨1, 1, (.cons (.ret (.tup (.cons (.atr ["Object"] "words" (.cons (.var 0) .nil)) (.cons (.atr ["Object"] "functions" (.cons (.var 0) .nil)) (.cons (.atr ["Object"] "data" (.cons (.var 0) .nil)) (.cons (.atr ["Object"] "needs" (.cons (.var 0) .nil)) (.cons (.atr ["Object"] "places" (.cons (.var 0) .nil)) (.cons (.atr ["Object"] "marks" (.cons (.var 0) .nil)) .nil)))))))) .nil)⟩
/-- Object.size(self): 0=self -/
abbrev sx_Object_size : Stmt := clsAt (top 2) 2
def ns_Object_size : List Str := ["self"]
def df_Object_size : Df := ⟨1, 1, (.cons (.ret (.blt .len (.cons (.atr ["Object"] "words" (.cons (.var 0) .nil)) .nil))) .nil)⟩
/-- Object.__add__(self, other): 0=self 1=other 2=count 3=functions 4=places 5=marks 6=name 7=start 8=params 9=frame 10=index 11=kind 12=chain 13=need -/
abbrev sx_Object__add : Stmt := clsAt (top 2) 3
def ns_Object__add : List Str := ["self", "other", "count", "functions", "places", "marks", "name", "start", "params", "frame", "index", "kind", "chain", "need"]
def lb_Object__add_1 : E := (.tup (.cons (.var 6) (.cons (.bin .Add (.cons (.var 2) (.cons (.var 7) .nil))) (.cons (.var 8) (.cons (.var 9) .nil)))))
def lb_Object__add_2 : E := (.tup (.cons (.bin .Add (.cons (.var 2) (.cons (.var 10) .nil))) (.cons (.var 11) (.cons (.var 6) .nil))))
def lb_Object__add_3 : E := (.tup (.cons (.bin .Add (.cons (.var 2) (.cons (.var 10) .nil))) (.cons (.var 11) (.cons (.var 12) .nil))))
def lb_Object__add_4 : E := (.var 13)
def df_Object__add : Df := ⟨2, 14, (.cons (.set (.nm 2) (.blt .len (.cons (.atr ["Object"] "words" (.cons (.var 0) .nil)) .nil))) (.cons (.set (.nm 3) (.comp false lb_Object__add_1 (.tp (.cons (.nm 6) (.cons (.nm 7) (.cons (.nm 8) (.cons (.nm 9) .nil))))) (.it (.atr ["Object"] "functions" (.cons (.var 1) .nil))) .nil [("name", 6), ("start", 7), ("params", 8), ("frame", 9)])) (.cons (.set (.nm 4) (.comp false lb_Object__add_2 (.tp (.cons (.nm 10) (.cons (.nm 11) (.cons (.nm 6) .nil)))) (.it (.atr ["Object"] "places" (.cons (.var 1) .nil))) .nil [("index", 10), ("kind", 11), ("name", 6)])) (.cons (.set (.nm 5) (.comp false lb_Object__add_3 (.tp (.cons (.nm 10) (.cons (.nm 11) (.cons (.nm 12) .nil)))) (.it (.atr ["Object"] "marks" (.cons (.var 1) .nil))) .nil [("index", 10), ("kind", 11), ("chain", 12)])) (.cons (.ret (.new true "Object" "Object.__init__" (.cons (.bin .Add (.cons (.atr ["Object"] "words" (.cons (.var 0) .nil)) (.cons (.atr ["Object"] "words" (.cons (.var 1) .nil)) .nil))) (.cons (.bin .Add (.cons (.atr ["Object"] "functions" (.cons (.var 0) .nil)) (.cons (.blt .tuple (.cons (.var 3) .nil)) .nil))) (.cons (.bin .Add (.cons (.atr ["Object"] "data" (.cons (.var 0) .nil)) (.cons (.atr ["Object"] "data" (.cons (.var 1) .nil)) .nil))) (.cons (.bin .Add (.cons (.atr ["Object"] "needs" (.cons (.var 0) .nil)) (.cons (.blt .tuple (.cons (.comp false lb_Object__add_4 (.nm 13) (.it (.atr ["Object"] "needs" (.cons (.var 1) .nil))) (.cons (.cmp .NotIn (.cons (.var 13) (.cons (.atr ["Object"] "needs" (.cons (.var 0) .nil)) .nil))) .nil) [("need", 13)]) .nil)) .nil))) (.cons (.bin .Add (.cons (.atr ["Object"] "places" (.cons (.var 0) .nil)) (.cons (.blt .tuple (.cons (.var 4) .nil)) .nil))) (.cons (.bin .Add (.cons (.atr ["Object"] "marks" (.cons (.var 0) .nil)) (.cons (.blt .tuple (.cons (.var 5) .nil)) .nil))) .nil)))))))) .nil)))))⟩
/-- _law_pool(_law_script): 0=_law_script -/
abbrev sx_law_pool : Stmt := top 4
def ns_law_pool : List Str := ["_law_script"]
def df_law_pool : Df := ⟨1, 1, (.cons (.ret (.lst true (.cons (.blt .list (.cons (.slc 2 (.cons (.var 0) (.cons (.int 63) .nil))) .nil)) (.cons (.int 0) (.cons (.int 0) (.cons (.int 11) .nil)))))) .nil)⟩
/-- _law_draw(_law_pool_here, _law_many_here): 0=_law_pool_here 1=_law_many_here 2=_law_digit -/
abbrev sx_law_draw : Stmt := top 5
def ns_law_draw : List Str := ["_law_pool_here", "_law_many_here", "_law_digit"]
def df_law_draw : Df := ⟨2, 3, (.cons (.whl (.and (.cons (.cmp .Eq (.cons (.sub (.cons (.var 0) (.cons (.int 2) .nil))) (.cons (.int 0) .nil))) (.cons (.cmp .Lt (.cons (.sub (.cons (.var 0) (.cons (.int 1) .nil))) (.cons (.blt .len (.cons (.sub (.cons (.var 0) (.cons (.int 0) .nil))) .nil)) .nil))) .nil))) (.cons (.set (.sbv 0 (.int 2)) (.blt .abs (.cons (.sub (.cons (.sub (.cons (.var 0) (.cons (.int 0) .nil))) (.cons (.sub (.cons (.var 0) (.cons (.int 1) .nil))) .nil))) .nil))) (.cons (.set (.sbv 0 (.int 1)) (.bin .Add (.cons (.sub (.cons (.var 0) (.cons (.int 1) .nil))) (.cons (.int 1) .nil)))) .nil))) (.cons (.ifs (.cmp .Eq (.cons (.sub (.cons (.var 0) (.cons (.int 2) .nil))) (.cons (.int 0) .nil))) (.cons (.set (.sbv 0 (.int 3)) (.bin .Add (.cons (.sub (.cons (.var 0) (.cons (.int 3) .nil))) (.cons (.int 7) .nil)))) (.cons (.ret (.bin .Mod (.cons (.blt .int (.cons (.bin .FloorDiv (.cons (.sub (.cons (.var 0) (.cons (.int 3) .nil))) (.cons (.int 3) .nil))) .nil)) (.cons (.var 1) .nil)))) .nil)) .nil) (.cons (.set (.nm 2) (.bin .Mod (.cons (.blt .int (.cons (.sub (.cons (.var 0) (.cons (.int 2) .nil))) .nil)) (.cons (.var 1) .nil)))) (.cons (.set (.sbv 0 (.int 2)) (.bin .FloorDiv (.cons (.blt .int (.cons (.sub (.cons (.var 0) (.cons (.int 2) .nil))) .nil)) (.cons (.var 1) .nil)))) (.cons (.ret (.var 2)) .nil)))))⟩
/-- _law_pick(_law_pool_here, _law_things): 0=_law_pool_here 1=_law_things -/
abbrev sx_law_pick : Stmt := top 6
def ns_law_pick : List Str := ["_law_pool_here", "_law_things"]
def df_law_pick : Df := ⟨2, 2, (.cons (.ret (.sub (.cons (.var 1) (.cons (.call false "_law_draw" (.cons (.var 0) (.cons (.blt .len (.cons (.var 1) .nil)) .nil))) .nil)))) .nil)⟩
/-- _law_word(_law_pool_here): 0=_law_pool_here 1=_law_kind 2=_law_edges -/
abbrev sx_law_word : Stmt := top 7
def ns_law_word : List Str := ["_law_pool_here", "_law_kind", "_law_edges"]
def df_law_word : Df := ⟨1, 3, (.cons (.set (.nm 1) (.call false "_law_draw" (.cons (.var 0) (.cons (.int 4) .nil)))) (.cons (.ifs (.cmp .Lt (.cons (.var 1) (.cons (.int 2) .nil))) (.cons (.ret (.bin .Sub (.cons (.call false "_law_draw" (.cons (.var 0) (.cons (.int 12) .nil))) (.cons (.int 4) .nil)))) .nil) .nil) (.cons (.set (.nm 2) (.lst false (.cons (.neg (.int 2147483648)) (.cons (.neg (.int 2147483647)) (.cons (.neg (.int 2049)) (.cons (.neg (.int 2048)) (.cons (.neg (.int 1)) (.cons (.int 0) (.cons (.int 1) (.cons (.int 31) (.cons (.int 32) (.cons (.int 33) (.cons (.int 2047) (.cons (.int 2048) (.cons (.int 4095) (.cons (.int 2147483647) .nil)))))))))))))))) (.cons (.ifs (.cmp .Eq (.cons (.var 1) (.cons (.int 2) .nil))) (.cons (.ret (.sub (.cons (.var 2) (.cons (.call false "_law_draw" (.cons (.var 0) (.cons (.int 14) .nil))) .nil)))) .nil) .nil) (.cons (.ret (.bin .Sub (.cons (.call false "_law_draw" (.cons (.var 0) (.cons (.int 4294967296) .nil))) (.cons (.int 2147483648) .nil)))) .nil)))))⟩
/-- _law_alike(_law_a, _law_b): 0=_law_a 1=_law_b 2=_law_k -/
abbrev sx_law_alike : Stmt := top 8
def ns_law_alike : List Str := ["_law_a", "_law_b", "_law_k"]
def lb_law_alike_1 : Ss := (.cons (.ifs (.not (.call true "_law_alike" (.cons (.sub (.cons (.var 0) (.cons (.var 2) .nil))) (.cons (.sub (.cons (.var 1) (.cons (.var 2) .nil))) .nil)))) (.cons (.ret (.bl false)) .nil) .nil) .nil)
def df_law_alike : Df := ⟨2, 3, (.cons (.ifs (.blt .isi (.cons (.var 1) (.cons (.tup (.cons (.gl "tuple") (.cons (.gl "list") .nil))) .nil))) (.cons (.ifs (.and (.cons (.blt .isi (.cons (.var 1) (.cons (.gl "tuple") .nil))) (.cons (.not (.blt .isi (.cons (.var 0) (.cons (.gl "tuple") .nil)))) .nil))) (.cons (.ret (.bl false)) .nil) .nil) (.cons (.ifs (.and (.cons (.blt .isi (.cons (.var 1) (.cons (.gl "list") .nil))) (.cons (.not (.blt .isi (.cons (.var 0) (.cons (.gl "list") .nil)))) .nil))) (.cons (.ret (.bl false)) .nil) .nil) (.cons (.ifs (.cmp .NotEq (.cons (.blt .len (.cons (.var 0) .nil)) (.cons (.blt .len (.cons (.var 1) .nil)) .nil))) (.cons (.ret (.bl false)) .nil) .nil) (.cons (.for_ (.nm 2) (.rg1 (.blt .len (.cons (.var 1) .nil))) lb_law_alike_1) (.cons (.ret (.bl true)) .nil))))) .nil) (.cons (.ifs (.cmp .Is (.cons (.var 1) (.cons .non .nil))) (.cons (.ret (.cmp .Is (.cons (.var 0) (.cons .non .nil)))) .nil) .nil) (.cons (.ifs (.cmp .Is (.cons (.var 1) (.cons (.bl true) .nil))) (.cons (.ret (.cmp .Is (.cons (.var 0) (.cons (.bl true) .nil)))) .nil) .nil) (.cons (.ifs (.cmp .Is (.cons (.var 1) (.cons (.bl false) .nil))) (.cons (.ret (.cmp .Is (.cons (.var 0) (.cons (.bl false) .nil)))) .nil) .nil) (.cons (.ifs (.blt .isi (.cons (.var 1) (.cons (.gl "str") .nil))) (.cons (.ret (.and (.cons (.blt .isi (.cons (.var 0) (.cons (.gl "str") .nil))) (.cons (.cmp .Eq (.cons (.var 0) (.cons (.var 1) .nil))) .nil)))) .nil) .nil) (.cons (.ret (.and (.cons (.blt .isi (.cons (.var 0) (.cons (.gl "int") .nil))) (.cons (.not (.blt .isi (.cons (.var 0) (.cons (.gl "bool") .nil)))) (.cons (.cmp .Eq (.cons (.var 0) (.cons (.var 1) .nil))) .nil))))) .nil))))))⟩
/-- _law_table(): 0=_law_table_here 1=_law_three 2=_law_other 3=_law_k 4=_law_pair -/
abbrev sx_law_table : Stmt := top 9
def ns_law_table : List Str := ["_law_table_here", "_law_three", "_law_other", "_law_k", "_law_pair"]
def lb_law_table_1 : Ss := (.cons (.set (.sbv 0 (.sub (.cons (.var 1) (.cons (.var 3) .nil)))) (.tup (.cons (.str "R") (.cons (.int 51) (.cons (.var 3) (.cons (.int 0) .nil)))))) (.cons (.set (.sbv 0 (.sub (.cons (.var 2) (.cons (.var 3) .nil)))) (.tup (.cons (.str "R") (.cons (.int 51) (.cons (.var 3) (.cons (.int 1) .nil)))))) .nil))
def lb_law_table_2 : Ss := (.cons (.set (.sbv 0 (.sub (.cons (.var 4) (.cons (.int 0) .nil)))) (.tup (.cons (.str "I") (.cons (.int 19) (.cons (.sub (.cons (.var 4) (.cons (.int 1) .nil))) (.cons (.int 0) .nil)))))) .nil)
def lb_law_table_3 : Ss := (.cons (.set (.sbv 0 (.sub (.cons (.var 4) (.cons (.int 0) .nil)))) (.tup (.cons (.str "B") (.cons (.int 99) (.cons (.sub (.cons (.var 4) (.cons (.int 1) .nil))) (.cons (.int 0) .nil)))))) .nil)
def df_law_table : Df := ⟨0, 5, (.cons (.set (.nm 0) (.dct false (.cons (.str "jalr") (.cons (.tup (.cons (.str "I") (.cons (.int 103) (.cons (.int 0) (.cons (.int 0) .nil))))) (.cons (.str "lw") (.cons (.tup (.cons (.str "I") (.cons (.int 3) (.cons (.int 2) (.cons (.int 0) .nil))))) (.cons (.str "sw") (.cons (.tup (.cons (.str "S") (.cons (.int 35) (.cons (.int 2) (.cons (.int 0) .nil))))) .nil)))))))) (.cons (.set (.sbv 0 (.str "jal")) (.tup (.cons (.str "J") (.cons (.int 111) (.cons (.int 0) (.cons (.int 0) .nil)))))) (.cons (.set (.sbv 0 (.str "lui")) (.tup (.cons (.str "U") (.cons (.int 55) (.cons (.int 0) (.cons (.int 0) .nil)))))) (.cons (.set (.sbv 0 (.str "auipc")) (.tup (.cons (.str "U") (.cons (.int 23) (.cons (.int 0) (.cons (.int 0) .nil)))))) (.cons (.set (.nm 1) (.lst false (.cons (.str "add") (.cons (.str "sll") (.cons (.str "slt") (.cons (.str "sltu") (.cons (.str "xor") (.cons (.str "srl") (.cons (.str "or") (.cons (.str "and") .nil)))))))))) (.cons (.set (.nm 2) (.lst false (.cons (.str "mul") (.cons (.str "mulh") (.cons (.str "mulhsu") (.cons (.str "mulhu") (.cons (.str "div") (.cons (.str "divu") (.cons (.str "rem") (.cons (.str "remu") .nil)))))))))) (.cons (.for_ (.nm 3) (.rg1 (.int 8)) lb_law_table_1) (.cons (.set (.sbv 0 (.str "sub")) (.tup (.cons (.str "R") (.cons (.int 51) (.cons (.int 0) (.cons (.int 32) .nil)))))) (.cons (.set (.sbv 0 (.str "sra")) (.tup (.cons (.str "R") (.cons (.int 51) (.cons (.int 5) (.cons (.int 32) .nil)))))) (.cons (.for_ (.nm 4) (.it (.lst false (.cons (.tup (.cons (.str "addi") (.cons (.int 0) .nil))) (.cons (.tup (.cons (.str "slti") (.cons (.int 2) .nil))) (.cons (.tup (.cons (.str "sltiu") (.cons (.int 3) .nil))) (.cons (.tup (.cons (.str "xori") (.cons (.int 4) .nil))) (.cons (.tup (.cons (.str "ori") (.cons (.int 6) .nil))) (.cons (.tup (.cons (.str "andi") (.cons (.int 7) .nil))) .nil)))))))) lb_law_table_2) (.cons (.set (.sbv 0 (.str "slli")) (.tup (.cons (.str "shift") (.cons (.int 19) (.cons (.int 1) (.cons (.int 0) .nil)))))) (.cons (.set (.sbv 0 (.str "srli")) (.tup (.cons (.str "shift") (.cons (.int 19) (.cons (.int 5) (.cons (.int 0) .nil)))))) (.cons (.set (.sbv 0 (.str "srai")) (.tup (.cons (.str "shift") (.cons (.int 19) (.cons (.int 5) (.cons (.int 32) .nil)))))) (.cons (.for_ (.nm 4) (.it (.lst false (.cons (.tup (.cons (.str "beq") (.cons (.int 0) .nil))) (.cons (.tup (.cons (.str "bne") (.cons (.int 1) .nil))) (.cons (.tup (.cons (.str "blt") (.cons (.int 4) .nil))) (.cons (.tup (.cons (.str "bge") (.cons (.int 5) .nil))) (.cons (.tup (.cons (.str "bltu") (.cons (.int 6) .nil))) (.cons (.tup (.cons (.str "bgeu") (.cons (.int 7) .nil))) .nil)))))))) lb_law_table_3) (.cons (.ret (.var 0)) .nil)))))))))))))))⟩
/-- _law_encoded(_law_table_here, _law_row): 0=_law_table_here 1=_law_row 2=_law_form 3=_law_m 4=_law_bits -/
abbrev sx_law_encoded : Stmt := top 10
def ns_law_encoded : List Str := ["_law_table_here", "_law_row", "_law_form", "_law_m", "_law_bits"]
def df_law_encoded : Df := ⟨2, 5, (.cons (.ifs (.cmp .Eq (.cons (.blt .len (.cons (.var 1) .nil)) (.cons (.int 1) .nil))) (.cons (.ret (.ite (.cmp .Eq (.cons (.sub (.cons (.var 1) (.cons (.int 0) .nil))) (.cons (.str "ecall") .nil))) (.int 115) (.int 1048691))) .nil) .nil) (.cons (.set (.nm 2) (.sub (.cons (.var 0) (.cons (.sub (.cons (.var 1) (.cons (.int 0) .nil))) .nil)))) (.cons (.ifs (.cmp .Eq (.cons (.sub (.cons (.var 2) (.cons (.int 0) .nil))) (.cons (.str "U") .nil))) (.cons (.ret (.bin .Add (.cons (.bin .Add (.cons (.bin .Mult (.cons (.sub (.cons (.var 1) (.cons (.int 2) .nil))) (.cons (.int 4096) .nil))) (.cons (.bin .Mult (.cons (.sub (.cons (.var 1) (.cons (.int 1) .nil))) (.cons (.int 128) .nil))) .nil))) (.cons (.sub (.cons (.var 2) (.cons (.int 1) .nil))) .nil)))) .nil) .nil) (.cons (.ifs (.cmp .Eq (.cons (.sub (.cons (.var 2) (.cons (.int 0) .nil))) (.cons (.str "J") .nil))) (.cons (.set (.nm 3) (.bin .Mod (.cons (.blt .int (.cons (.sub (.cons (.var 1) (.cons (.int 2) .nil))) .nil)) (.cons (.int 2097152) .nil)))) (.cons (.set (.nm 4) (.bin .Add (.cons (.bin .Add (.cons (.bin .Mult (.cons (.bin .FloorDiv (.cons (.var 3) (.cons (.int 1048576) .nil))) (.cons (.int 524288) .nil))) (.cons (.bin .Mult (.cons (.bin .Mod (.cons (.bin .FloorDiv (.cons (.var 3) (.cons (.int 2) .nil))) (.cons (.int 1024) .nil))) (.cons (.int 512) .nil))) .nil))) (.cons (.bin .Mult (.cons (.bin .Mod (.cons (.bin .FloorDiv (.cons (.var 3) (.cons (.int 2048) .nil))) (.cons (.int 2) .nil))) (.cons (.int 256) .nil))) .nil)))) (.cons (.ret (.bin .Add (.cons (.bin .Add (.cons (.bin .Mult (.cons (.bin .Add (.cons (.var 4) (.cons (.bin .Mod (.cons (.bin .FloorDiv (.cons (.var 3) (.cons (.int 4096) .nil))) (.cons (.int 256) .nil))) .nil))) (.cons (.int 4096) .nil))) (.cons (.bin .Mult (.cons (.sub (.cons (.var 1) (.cons (.int 1) .nil))) (.cons (.int 128) .nil))) .nil))) (.cons (.sub (.cons (.var 2) (.cons (.int 1) .nil))) .nil)))) .nil))) .nil) (.cons (.ifs (.or (.cons (.cmp .Eq (.cons (.sub (.cons (.var 2) (.cons (.int 0) .nil))) (.cons (.str "R") .nil))) (.cons (.cmp .Eq (.cons (.sub (.cons (.var 2) (.cons (.int 0) .nil))) (.cons (.str "shift") .nil))) .nil))) (.cons (.set (.nm 4) (.bin .Add (.cons (.bin .Add (.cons (.bin .Mult (.cons (.sub (.cons (.var 2) (.cons (.int 3) .nil))) (.cons (.int 33554432) .nil))) (.cons (.bin .Mult (.cons (.sub (.cons (.var 1) (.cons (.int 3) .nil))) (.cons (.int 1048576) .nil))) .nil))) (.cons (.bin .Mult (.cons (.sub (.cons (.var 1) (.cons (.int 2) .nil))) (.cons (.int 32768) .nil))) .nil)))) (.cons (.ret (.bin .Add (.cons (.bin .Add (.cons (.bin .Add (.cons (.var 4) (.cons (.bin .Mult (.cons (.sub (.cons (.var 2) (.cons (.int 2) .nil))) (.cons (.int 4096) .nil))) .nil))) (.cons (.bin .Mult (.cons (.sub (.cons (.var 1) (.cons (.int 1) .nil))) (.cons (.int 128) .nil))) .nil))) (.cons (.sub (.cons (.var 2) (.cons (.int 1) .nil))) .nil)))) .nil)) .nil) (.cons (.ifs (.cmp .Eq (.cons (.sub (.cons (.var 2) (.cons (.int 0) .nil))) (.cons (.str "I") .nil))) (.cons (.set (.nm 3) (.bin .Mod (.cons (.blt .int (.cons (.sub (.cons (.var 1) (.cons (.int 3) .nil))) .nil)) (.cons (.int 4096) .nil)))) (.cons (.ret (.bin .Add (.cons (.bin .Add (.cons (.bin .Add (.cons (.bin .Add (.cons (.bin .Mult (.cons (.var 3) (.cons (.int 1048576) .nil))) (.cons (.bin .Mult (.cons (.sub (.cons (.var 1) (.cons (.int 2) .nil))) (.cons (.int 32768) .nil))) .nil))) (.cons (.bin .Mult (.cons (.sub (.cons (.var 2) (.cons (.int 2) .nil))) (.cons (.int 4096) .nil))) .nil))) (.cons (.bin .Mult (.cons (.sub (.cons (.var 1) (.cons (.int 1) .nil))) (.cons (.int 128) .nil))) .nil))) (.cons (.sub (.cons (.var 2) (.cons (.int 1) .nil))) .nil)))) .nil)) .nil) (.cons (.ifs (.cmp .Eq (.cons (.sub (.cons (.var 2) (.cons (.int 0) .nil))) (.cons (.str "S") .nil))) (.cons (.set (.nm 3) (.bin .Mod (.cons (.blt .int (.cons (.sub (.cons (.var 1) (.cons (.int 3) .nil))) .nil)) (.cons (.int 4096) .nil)))) (.cons (.set (.nm 4) (.bin .Add (.cons (.bin .Add (.cons (.bin .Add (.cons (.bin .Mult (.cons (.bin .FloorDiv (.cons (.var 3) (.cons (.int 32) .nil))) (.cons (.int 33554432) .nil))) (.cons (.bin .Mult (.cons (.sub (.cons (.var 1) (.cons (.int 1) .nil))) (.cons (.int 1048576) .nil))) .nil))) (.cons (.bin .Mult (.cons (.sub (.cons (.var 1) (.cons (.int 2) .nil))) (.cons (.int 32768) .nil))) .nil))) (.cons (.bin .Mult (.cons (.sub (.cons (.var 2) (.cons (.int 2) .nil))) (.cons (.int 4096) .nil))) .nil)))) (.cons (.ret (.bin .Add (.cons (.bin .Add (.cons (.var 4) (.cons (.bin .Mult (.cons (.bin .Mod (.cons (.var 3) (.cons (.int 32) .nil))) (.cons (.int 128) .nil))) .nil))) (.cons (.sub (.cons (.var 2) (.cons (.int 1) .nil))) .nil)))) .nil))) .nil) (.cons (.set (.nm 3) (.bin .Mod (.cons (.blt .int (.cons (.sub (.cons (.var 1) (.cons (.int 3) .nil))) .nil)) (.cons (.int 8192) .nil)))) (.cons (.set (.nm 4) (.bin .Add (.cons (.bin .Add (.cons (.bin .Mult (.cons (.bin .Add (.cons (.bin .Mult (.cons (.bin .FloorDiv (.cons (.var 3) (.cons (.int 4096) .nil))) (.cons (.int 64) .nil))) (.cons (.bin .Mod (.cons (.bin .FloorDiv (.cons (.var 3) (.cons (.int 32) .nil))) (.cons (.int 64) .nil))) .nil))) (.cons (.int 33554432) .nil))) (.cons (.bin .Mult (.cons (.sub (.cons (.var 1) (.cons (.int 2) .nil))) (.cons (.int 1048576) .nil))) .nil))) (.cons (.bin .Mult (.cons (.sub (.cons (.var 1) (.cons (.int 1) .nil))) (.cons (.int 32768) .nil))) .nil)))) (.cons (.ret (.bin .Add (.cons (.bin .Add (.cons (.bin .Add (.cons (.var 4) (.cons (.bin .Mult (.cons (.sub (.cons (.var 2) (.cons (.int 2) .nil))) (.cons (.int 4096) .nil))) .nil))) (.cons (.bin .Mult (.cons (.bin .Add (.cons (.bin .Mult (.cons (.bin .Mod (.cons (.bin .FloorDiv (.cons (.var 3) (.cons (.int 2) .nil))) (.cons (.int 16) .nil))) (.cons (.int 2) .nil))) (.cons (.bin .Mod (.cons (.bin .FloorDiv (.cons (.var 3) (.cons (.int 2048) .nil))) (.cons (.int 2) .nil))) .nil))) (.cons (.int 128) .nil))) .nil))) (.cons (.sub (.cons (.var 2) (.cons (.int 1) .nil))) .nil)))) .nil))))))))))⟩
/-- _law_edge(_law_pool_here, _law_least, _law_greatest): 0=_law_pool_here 1=_law_least 2=_law_greatest 3=_law_kind -/
abbrev sx_law_edge : Stmt := top 11
def ns_law_edge : List Str := ["_law_pool_here", "_law_least", "_law_greatest", "_law_kind"]
def df_law_edge : Df := ⟨3, 4, (.cons (.set (.nm 3) (.call false "_law_draw" (.cons (.var 0) (.cons (.int 5) .nil)))) (.cons (.ifs (.cmp .Eq (.cons (.var 3) (.cons (.int 0) .nil))) (.cons (.ret (.var 1)) .nil) .nil) (.cons (.ifs (.cmp .Eq (.cons (.var 3) (.cons (.int 1) .nil))) (.cons (.ret (.var 2)) .nil) .nil) (.cons (.ifs (.cmp .Eq (.cons (.var 3) (.cons (.int 2) .nil))) (.cons (.ret (.int 0)) .nil) .nil) (.cons (.ret (.bin .Add (.cons (.var 1) (.cons (.call false "_law_draw" (.cons (.var 0) (.cons (.bin .Add (.cons (.bin .Sub (.cons (.var 2) (.cons (.var 1) .nil))) (.cons (.int 1) .nil))) .nil))) .nil)))) .nil)))))⟩
/-- _law_drawn_row(_law_pool_here, _law_table_here): 0=_law_pool_here 1=_law_table_here 2=_law_kind 3=_law_form 4=_law_a 5=_law_b -/
abbrev sx_law_drawn_row : Stmt := top 12
def ns_law_drawn_row : List Str := ["_law_pool_here", "_law_table_here", "_law_kind", "_law_form", "_law_a", "_law_b"]
def df_law_drawn_row : Df := ⟨2, 6, (.cons (.set (.nm 2) (.call false "_law_pick" (.cons (.var 0) (.cons (.bin .Add (.cons (.blt .list (.cons (.var 1) .nil)) (.cons (.lst false (.cons (.str "ecall") (.cons (.str "ebreak") .nil))) .nil))) .nil)))) (.cons (.ifs (.cmp .In (.cons (.var 2) (.cons (.tup (.cons (.str "ecall") (.cons (.str "ebreak") .nil))) .nil))) (.cons (.ret (.tup (.cons (.var 2) .nil))) .nil) .nil) (.cons (.set (.nm 3) (.sub (.cons (.sub (.cons (.var 1) (.cons (.var 2) .nil))) (.cons (.int 0) .nil)))) (.cons (.set (.nm 4) (.call false "_law_draw" (.cons (.var 0) (.cons (.int 32) .nil)))) (.cons (.ifs (.cmp .Eq (.cons (.var 3) (.cons (.str "U") .nil))) (.cons (.ret (.tup (.cons (.var 2) (.cons (.var 4) (.cons (.call false "_law_edge" (.cons (.var 0) (.cons (.int 0) (.cons (.int 1048575) .nil)))) .nil))))) .nil) .nil) (.cons (.ifs (.cmp .Eq (.cons (.var 3) (.cons (.str "J") .nil))) (.cons (.ret (.tup (.cons (.var 2) (.cons (.var 4) (.cons (.bin .Mult (.cons (.int 2) (.cons (.call false "_law_edge" (.cons (.var 0) (.cons (.neg (.int 524288)) (.cons (.int 524287) .nil)))) .nil))) .nil))))) .nil) .nil) (.cons (.set (.nm 5) (.call false "_law_draw" (.cons (.var 0) (.cons (.int 32) .nil)))) (.cons (.ifs (.cmp .Eq (.cons (.var 3) (.cons (.str "B") .nil))) (.cons (.ret (.tup (.cons (.var 2) (.cons (.var 4) (.cons (.var 5) (.cons (.bin .Mult (.cons (.int 2) (.cons (.call false "_law_edge" (.cons (.var 0) (.cons (.neg (.int 2048)) (.cons (.int 2047) .nil)))) .nil))) .nil)))))) .nil) .nil) (.cons (.ifs (.or (.cons (.cmp .Eq (.cons (.var 3) (.cons (.str "I") .nil))) (.cons (.cmp .Eq (.cons (.var 3) (.cons (.str "S") .nil))) .nil))) (.cons (.ret (.tup (.cons (.var 2) (.cons (.var 4) (.cons (.var 5) (.cons (.call false "_law_edge" (.cons (.var 0) (.cons (.neg (.int 2048)) (.cons (.int 2047) .nil)))) .nil)))))) .nil) .nil) (.cons (.ret (.tup (.cons (.var 2) (.cons (.var 4) (.cons (.var 5) (.cons (.call false "_law_draw" (.cons (.var 0) (.cons (.int 32) .nil))) .nil)))))) .nil))))))))))⟩
/-- _law_title(_law_pool_here): 0=_law_pool_here 1=_law_some 2=_law_signs 3=_law_out 4=_law_turn -/
abbrev sx_law_title : Stmt := top 13
def ns_law_title : List Str := ["_law_pool_here", "_law_some", "_law_signs", "_law_out", "_law_turn"]
def lb_law_title_1 : Ss := (.cons (.set (.nm 3) (.bin .Add (.cons (.var 3) (.cons (.sub (.cons (.var 2) (.cons (.call false "_law_draw" (.cons (.var 0) (.cons (.int 36) .nil))) .nil))) .nil)))) .nil)
def df_law_title : Df := ⟨1, 5, (.cons (.ifs (.cmp .Gt (.cons (.call false "_law_draw" (.cons (.var 0) (.cons (.int 3) .nil))) (.cons (.int 0) .nil))) (.cons (.set (.nm 1) (.lst false (.cons (.str "g") (.cons (.str "main") (.cons (.str "f") (.cons (.str "x5") (.cons (.str "call") (.cons (.str "high") (.cons (.str "low") (.cons (.str "need") (.cons (.str "array") (.cons (.str "mark") .nil)))))))))))) (.cons (.ret (.call false "_law_pick" (.cons (.var 0) (.cons (.bin .Add (.cons (.var 1) (.cons (.lst false (.cons (.str "function") (.cons (.str "add") (.cons (.str "lw") (.cons (.str "ecall") (.cons (.str "a0") (.cons (.str "abcdefgh") .nil))))))) .nil))) .nil)))) .nil)) .nil) (.cons (.set (.nm 2) (.str "abcdefghijklmnopqrstuvwxyz0123456789")) (.cons (.set (.nm 3) (.sub (.cons (.var 2) (.cons (.call false "_law_draw" (.cons (.var 0) (.cons (.int 26) .nil))) .nil)))) (.cons (.for_ (.nm 4) (.rg1 (.call false "_law_draw" (.cons (.var 0) (.cons (.int 8) .nil)))) lb_law_title_1) (.cons (.ifs (.cmp .In (.cons (.var 3) (.cons (.tup (.cons (.str "break") (.cons (.str "continue") (.cons (.str "else") (.cons (.str "if") (.cons (.str "mod") (.cons (.str "return") (.cons (.str "tell") (.cons (.str "use") (.cons (.str "while") (.cons (.str "word") .nil))))))))))) .nil))) (.cons (.ret (.str "zz")) .nil) .nil) (.cons (.ret (.var 3)) .nil))))))⟩
/-- _law_many(_law_pool_here): 0=_law_pool_here -/
abbrev sx_law_many : Stmt := top 14
def ns_law_many : List Str := ["_law_pool_here"]
def df_law_many : Df := ⟨1, 1, (.cons (.ret (.call false "_law_pick" (.cons (.var 0) (.cons (.lst false (.cons (.int 0) (.cons (.int 0) (.cons (.int 0) (.cons (.int 0) (.cons (.int 1) (.cons (.int 1) (.cons (.int 1) (.cons (.int 1) (.cons (.int 1) (.cons (.int 2) (.cons (.int 2) (.cons (.int 2) (.cons (.int 2) (.cons (.int 3) (.cons (.int 3) (.cons (.int 6) .nil))))))))))))))))) .nil)))) .nil)⟩
/-- _law_long(_law_pool_here): 0=_law_pool_here -/
abbrev sx_law_long : Stmt := top 15
def ns_law_long : List Str := ["_law_pool_here"]
def df_law_long : Df := ⟨1, 1, (.cons (.ret (.call false "_law_pick" (.cons (.var 0) (.cons (.lst false (.cons (.int 1) (.cons (.int 2) (.cons (.int 9) (.cons (.int 10) (.cons (.int 999) (.cons (.int 1000) (.cons (.bin .Add (.cons (.int 1) (.cons (.call false "_law_draw" (.cons (.var 0) (.cons (.int 1000) .nil))) .nil))) .nil)))))))) .nil)))) .nil)⟩
/-- _law_want(_law_pool_here): 0=_law_pool_here 1=_law_title_here 2=_law_kind -/
abbrev sx_law_want : Stmt := top 16
def ns_law_want : List Str := ["_law_pool_here", "_law_title_here", "_law_kind"]
def df_law_want : Df := ⟨1, 3, (.cons (.set (.nm 1) (.call false "_law_title" (.cons (.var 0) .nil))) (.cons (.set (.nm 2) (.call false "_law_draw" (.cons (.var 0) (.cons (.int 3) .nil)))) (.cons (.ifs (.cmp .Eq (.cons (.var 2) (.cons (.int 0) .nil))) (.cons (.ret (.tup (.cons (.var 1) (.cons (.str "word") (.cons (.int 0) .nil))))) .nil) .nil) (.cons (.ifs (.cmp .Eq (.cons (.var 2) (.cons (.int 1) .nil))) (.cons (.ret (.tup (.cons (.var 1) (.cons (.str "array") (.cons (.call false "_law_long" (.cons (.var 0) .nil)) .nil))))) .nil) .nil) (.cons (.ret (.tup (.cons (.var 1) (.cons (.str "function") (.cons (.call false "_law_draw" (.cons (.var 0) (.cons (.int 7) .nil))) .nil))))) .nil)))))⟩
/-- _law_datum(_law_pool_here): 0=_law_pool_here 1=_law_title_here -/
abbrev sx_law_datum : Stmt := top 17
def ns_law_datum : List Str := ["_law_pool_here", "_law_title_here"]
def df_law_datum : Df := ⟨1, 2, (.cons (.set (.nm 1) (.call false "_law_title" (.cons (.var 0) .nil))) (.cons (.ifs (.cmp .Eq (.cons (.call false "_law_draw" (.cons (.var 0) (.cons (.int 2) .nil))) (.cons (.int 0) .nil))) (.cons (.ret (.tup (.cons (.var 1) (.cons (.int 0) (.cons (.call false "_law_word" (.cons (.var 0) .nil)) .nil))))) .nil) .nil) (.cons (.ret (.tup (.cons (.var 1) (.cons (.call false "_law_long" (.cons (.var 0) .nil)) (.cons (.int 0) .nil))))) .nil)))⟩
/-- _law_chain(_law_pool_here): 0=_law_pool_here 1=_law_out 2=_law_turn 3=_law_title_here 4=_law_some -/
abbrev sx_law_chain : Stmt := top 18
def ns_law_chain : List Str := ["_law_pool_here", "_law_out", "_law_turn", "_law_title_here", "_law_some"]
def lb_law_chain_1 : Ss := (.cons (.set (.nm 3) (.call false "_law_title" (.cons (.var 0) .nil))) (.cons (.set (.nm 4) (.lst false (.cons (.int 0) (.cons (.int 9) (.cons (.int 10) (.cons (.int 199) (.cons (.call false "_law_draw" (.cons (.var 0) (.cons (.int 200) .nil))) .nil))))))) (.cons (.exp (.chv .append 1 (.cons (.tup (.cons (.var 3) (.cons (.call false "_law_pick" (.cons (.var 0) (.cons (.var 4) .nil))) .nil))) .nil))) .nil)))
def df_law_chain : Df := ⟨1, 5, (.cons (.set (.nm 1) (.lst false .nil)) (.cons (.for_ (.nm 2) (.rg1 (.call false "_law_pick" (.cons (.var 0) (.cons (.lst false (.cons (.int 1) (.cons (.int 1) (.cons (.int 2) (.cons (.int 3) (.cons (.int 8) .nil)))))) .nil)))) lb_law_chain_1) (.cons (.ret (.blt .tuple (.cons (.var 1) .nil))) .nil)))⟩
/-- _law_open_row(_law_pool_here, _law_calls, _law_outers): 0=_law_pool_here 1=_law_calls 2=_law_outers 3=_law_kind 4=_law_a 5=_law_b 6=_law_way -/
abbrev sx_law_open_row : Stmt := top 19
def ns_law_open_row : List Str := ["_law_pool_here", "_law_calls", "_law_outers", "_law_kind", "_law_a", "_law_b", "_law_way"]
def df_law_open_row : Df := ⟨3, 7, (.cons (.set (.nm 3) (.call false "_law_draw" (.cons (.var 0) (.cons (.int 5) .nil)))) (.cons (.set (.nm 4) (.call false "_law_draw" (.cons (.var 0) (.cons (.int 32) .nil)))) (.cons (.set (.nm 5) (.call false "_law_draw" (.cons (.var 0) (.cons (.int 32) .nil)))) (.cons (.ifs (.and (.cons (.cmp .Eq (.cons (.var 3) (.cons (.int 0) .nil))) (.cons (.cmp .NotEq (.cons (.var 1) (.cons (.lst false .nil) .nil))) .nil))) (.cons (.ret (.tup (.cons (.tup (.cons (.str "jal") (.cons (.var 4) (.cons (.int 0) .nil)))) (.cons (.str "call") (.cons (.call false "_law_pick" (.cons (.var 0) (.cons (.var 1) .nil))) .nil))))) .nil) .nil) (.cons (.ifs (.and (.cons (.cmp .Eq (.cons (.var 3) (.cons (.int 1) .nil))) (.cons (.cmp .NotEq (.cons (.var 2) (.cons (.lst false .nil) .nil))) .nil))) (.cons (.ret (.tup (.cons (.tup (.cons (.str "lui") (.cons (.var 4) (.cons (.int 0) .nil)))) (.cons (.str "high") (.cons (.call false "_law_pick" (.cons (.var 0) (.cons (.var 2) .nil))) .nil))))) .nil) .nil) (.cons (.ifs (.and (.cons (.cmp .Gt (.cons (.var 3) (.cons (.int 1) .nil))) (.cons (.cmp .NotEq (.cons (.var 2) (.cons (.lst false .nil) .nil))) .nil))) (.cons (.set (.nm 6) (.sub (.cons (.lst false (.cons (.str "addi") (.cons (.str "lw") (.cons (.str "sw") .nil)))) (.cons (.bin .Sub (.cons (.var 3) (.cons (.int 2) .nil))) .nil)))) (.cons (.ret (.tup (.cons (.tup (.cons (.var 6) (.cons (.var 4) (.cons (.var 5) (.cons (.int 0) .nil))))) (.cons (.str "low") (.cons (.call false "_law_pick" (.cons (.var 0) (.cons (.var 2) .nil))) .nil))))) .nil)) .nil) (.cons (.ret (.tup (.cons (.tup (.cons (.str "addi") (.cons (.var 4) (.cons (.var 5) (.cons (.int 0) .nil))))) (.cons (.str "") (.cons (.str "") .nil))))) .nil)))))))⟩
/-- _law_one_word(_law_pool_here, _law_table_here, _law_thing_here, _law_calls, _law_outers): 0=_law_pool_here 1=_law_table_here 2=_law_thing_here 3=_law_calls 4=_law_outers 5=_law_at 6=_law_found 7=_law_kind -/
abbrev sx_law_one_word : Stmt := top 20
def ns_law_one_word : List Str := ["_law_pool_here", "_law_table_here", "_law_thing_here", "_law_calls", "_law_outers", "_law_at", "_law_found", "_law_kind"]
def df_law_one_word : Df := ⟨5, 8, (.cons (.set (.nm 5) (.blt .len (.cons (.sub (.cons (.var 2) (.cons (.str "rows") .nil))) .nil))) (.cons (.ifs (.cmp .Eq (.cons (.call false "_law_draw" (.cons (.var 0) (.cons (.int 3) .nil))) (.cons (.int 0) .nil))) (.cons (.set (.nm 6) (.call false "_law_open_row" (.cons (.var 0) (.cons (.var 3) (.cons (.var 4) .nil))))) (.cons (.exp (.cho .append (.sub (.cons (.var 2) (.cons (.str "rows") .nil))) (.cons (.sub (.cons (.var 6) (.cons (.int 0) .nil))) .nil))) (.cons (.ifs (.cmp .NotEq (.cons (.sub (.cons (.var 6) (.cons (.int 1) .nil))) (.cons (.str "") .nil))) (.cons (.exp (.cho .append (.sub (.cons (.var 2) (.cons (.str "open") .nil))) (.cons (.tup (.cons (.var 5) (.cons (.sub (.cons (.var 6) (.cons (.int 1) .nil))) (.cons (.sub (.cons (.var 6) (.cons (.int 2) .nil))) .nil)))) .nil))) .nil) .nil) .nil))) (.cons (.exp (.cho .append (.sub (.cons (.var 2) (.cons (.str "rows") .nil))) (.cons (.call false "_law_drawn_row" (.cons (.var 0) (.cons (.var 1) .nil))) .nil))) .nil)) (.cons (.ifs (.cmp .Eq (.cons (.call false "_law_draw" (.cons (.var 0) (.cons (.int 3) .nil))) (.cons (.int 0) .nil))) (.cons (.set (.nm 7) (.call false "_law_pick" (.cons (.var 0) (.cons (.lst false (.cons (.str "tell") (.cons (.str "call") (.cons (.str "divide") (.cons (.str "index") (.cons (.str "depth") .nil)))))) .nil)))) (.cons (.exp (.cho .append (.sub (.cons (.var 2) (.cons (.str "signs") .nil))) (.cons (.tup (.cons (.var 5) (.cons (.var 7) (.cons (.call false "_law_chain" (.cons (.var 0) .nil)) .nil)))) .nil))) .nil)) .nil) .nil)))⟩
/-- _law_thing(_law_pool_here, _law_table_here): 0=_law_pool_here 1=_law_table_here 2=_law_thing_here 3=_law_turn 4=_law_want_here 5=_law_heads 6=_law_title_here 7=_law_takes 8=_law_calls 9=_law_outers 10=_law_one -/
abbrev sx_law_thing : Stmt := top 21
def ns_law_thing : List Str := ["_law_pool_here", "_law_table_here", "_law_thing_here", "_law_turn", "_law_want_here", "_law_heads", "_law_title_here", "_law_takes", "_law_calls", "_law_outers", "_law_one"]
def lb_law_thing_1 : Ss := (.cons (.set (.nm 4) (.call false "_law_want" (.cons (.var 0) .nil))) (.cons (.ifs (.cmp .NotIn (.cons (.var 4) (.cons (.sub (.cons (.var 2) (.cons (.str "wants") .nil))) .nil))) (.cons (.exp (.cho .append (.sub (.cons (.var 2) (.cons (.str "wants") .nil))) (.cons (.var 4) .nil))) .nil) .nil) .nil))
def lb_law_thing_2 : Ss := (.cons (.exp (.cho .append (.sub (.cons (.var 2) (.cons (.str "outer") .nil))) (.cons (.call false "_law_datum" (.cons (.var 0) .nil)) .nil))) .nil)
def lb_law_thing_3 : Ss := (.cons (.set (.nm 6) (.call false "_law_title" (.cons (.var 0) .nil))) (.cons (.set (.nm 7) (.call false "_law_draw" (.cons (.var 0) (.cons (.int 7) .nil)))) (.cons (.exp (.chv .append 5 (.cons (.tup (.cons (.var 6) (.cons (.var 7) (.cons (.bin .Mult (.cons (.int 4) (.cons (.bin .Add (.cons (.int 1) (.cons (.call false "_law_draw" (.cons (.var 0) (.cons (.int 511) .nil))) .nil))) .nil))) .nil)))) .nil))) .nil)))
def lb_law_thing_4 : E := (.sub (.cons (.var 10) (.cons (.int 0) .nil)))
def lb_law_thing_5 : E := (.sub (.cons (.var 10) (.cons (.int 0) .nil)))
def lb_law_thing_6 : E := (.sub (.cons (.var 10) (.cons (.int 0) .nil)))
def lb_law_thing_7 : E := (.sub (.cons (.var 10) (.cons (.int 0) .nil)))
def lb_law_thing_8 : Ss := (.cons (.exp (.call false "_law_one_word" (.cons (.var 0) (.cons (.var 1) (.cons (.var 2) (.cons (.var 8) (.cons (.var 9) .nil))))))) .nil)
def lb_law_thing_9 : Ss := (.cons (.exp (.cho .append (.sub (.cons (.var 2) (.cons (.str "defs") .nil))) (.cons (.tup (.cons (.sub (.cons (.var 10) (.cons (.int 0) .nil))) (.cons (.blt .len (.cons (.sub (.cons (.var 2) (.cons (.str "rows") .nil))) .nil)) (.cons (.sub (.cons (.var 10) (.cons (.int 1) .nil))) (.cons (.sub (.cons (.var 10) (.cons (.int 2) .nil))) .nil))))) .nil))) (.cons (.for_ (.nm 3) (.rg1 (.bin .Add (.cons (.int 1) (.cons (.call false "_law_draw" (.cons (.var 0) (.cons (.int 4) .nil))) .nil)))) lb_law_thing_8) .nil))
def df_law_thing : Df := ⟨2, 11, (.cons (.set (.nm 2) (.dct true (.cons (.str "rows") (.cons (.lst true .nil) (.cons (.str "defs") (.cons (.lst true .nil) (.cons (.str "outer") (.cons (.lst true .nil) (.cons (.str "wants") (.cons (.lst true .nil) (.cons (.str "open") (.cons (.lst true .nil) (.cons (.str "signs") (.cons (.lst true .nil) .nil)))))))))))))) (.cons (.for_ (.nm 3) (.rg1 (.call false "_law_many" (.cons (.var 0) .nil))) lb_law_thing_1) (.cons (.for_ (.nm 3) (.rg1 (.call false "_law_many" (.cons (.var 0) .nil))) lb_law_thing_2) (.cons (.set (.nm 5) (.lst false .nil)) (.cons (.for_ (.nm 3) (.rg1 (.call false "_law_pick" (.cons (.var 0) (.cons (.lst false (.cons (.int 0) (.cons (.int 1) (.cons (.int 1) (.cons (.int 1) (.cons (.int 1) (.cons (.int 1) (.cons (.int 2) (.cons (.int 2) (.cons (.int 2) (.cons (.int 3) (.cons (.int 3) (.cons (.int 6) .nil))))))))))))) .nil)))) lb_law_thing_3) (.cons (.set (.nm 8) (.comp false lb_law_thing_4 (.nm 10) (.it (.var 5)) .nil [("_law_one", 10)])) (.cons (.set (.nm 8) (.bin .Add (.cons (.var 8) (.cons (.cms false lb_law_thing_5 (.nm 10) (.sub (.cons (.var 2) (.cons (.str "wants") .nil))) (.cons (.cmp .Eq (.cons (.sub (.cons (.var 10) (.cons (.int 1) .nil))) (.cons (.str "function") .nil))) .nil) [("_law_one", 10)]) .nil)))) (.cons (.set (.nm 9) (.cms false lb_law_thing_6 (.nm 10) (.sub (.cons (.var 2) (.cons (.str "outer") .nil))) .nil [("_law_one", 10)])) (.cons (.set (.nm 9) (.bin .Add (.cons (.var 9) (.cons (.cms false lb_law_thing_7 (.nm 10) (.sub (.cons (.var 2) (.cons (.str "wants") .nil))) (.cons (.cmp .NotEq (.cons (.sub (.cons (.var 10) (.cons (.int 1) .nil))) (.cons (.str "function") .nil))) .nil) [("_law_one", 10)]) .nil)))) (.cons (.for_ (.nm 10) (.it (.var 5)) lb_law_thing_9) (.cons (.ret (.var 2)) .nil)))))))))))⟩
/-- _law_parts_of(_law_table_here, _law_thing_here): 0=_law_table_here 1=_law_thing_here 2=_law_values 3=_law_rest 4=_law_key 5=_law_row -/
abbrev sx_law_parts_of : Stmt := top 22
def ns_law_parts_of : List Str := ["_law_table_here", "_law_thing_here", "_law_values", "_law_rest", "_law_key", "_law_row"]
def lb_law_parts_of_1 : E := (.call true "_law_encoded" (.cons (.var 0) (.cons (.var 5) .nil)))
def lb_law_parts_of_2 : E := (.blt .tuple (.cons (.sub (.cons (.var 1) (.cons (.var 4) .nil))) .nil))
def df_law_parts_of : Df := ⟨2, 6, (.cons (.set (.nm 2) (.blt .tuple (.cons (.cms false lb_law_parts_of_1 (.nm 5) (.sub (.cons (.var 1) (.cons (.str "rows") .nil))) .nil [("_law_row", 5)]) .nil))) (.cons (.set (.nm 3) (.comp false lb_law_parts_of_2 (.nm 4) (.it (.lst false (.cons (.str "defs") (.cons (.str "outer") (.cons (.str "wants") (.cons (.str "open") (.cons (.str "signs") .nil))))))) .nil [("_law_key", 4)])) (.cons (.ret (.tup (.cons (.var 2) (.cons (.sub (.cons (.var 3) (.cons (.int 0) .nil))) (.cons (.sub (.cons (.var 3) (.cons (.int 1) .nil))) (.cons (.sub (.cons (.var 3) (.cons (.int 2) .nil))) (.cons (.sub (.cons (.var 3) (.cons (.int 3) .nil))) (.cons (.sub (.cons (.var 3) (.cons (.int 4) .nil))) .nil)))))))) .nil)))⟩
/-- _law_like_needs(_law_pool_here, _law_thing_here, _law_others): 0=_law_pool_here 1=_law_thing_here 2=_law_others 3=_law_want_here 4=_law_more 5=_law_at -/
abbrev sx_law_like_needs : Stmt := top 23
def ns_law_like_needs : List Str := ["_law_pool_here", "_law_thing_here", "_law_others", "_law_want_here", "_law_more", "_law_at"]
def lb_law_like_needs_1 : Ss := (.cons (.ifs (.cmp .Eq (.cons (.call false "_law_draw" (.cons (.var 0) (.cons (.int 2) .nil))) (.cons (.int 0) .nil))) (.cons (.set (.nm 4) (.var 3)) (.cons (.ifs (.and (.cons (.cmp .Eq (.cons (.sub (.cons (.var 3) (.cons (.int 1) .nil))) (.cons (.str "function") .nil))) (.cons (.cmp .Eq (.cons (.call false "_law_draw" (.cons (.var 0) (.cons (.int 3) .nil))) (.cons (.int 0) .nil))) .nil))) (.cons (.set (.nm 4) (.tup (.cons (.sub (.cons (.var 3) (.cons (.int 0) .nil))) (.cons (.sub (.cons (.var 3) (.cons (.int 1) .nil))) (.cons (.bin .Mod (.cons (.blt .int (.cons (.bin .Add (.cons (.sub (.cons (.var 3) (.cons (.int 2) .nil))) (.cons (.int 1) .nil))) .nil)) (.cons (.int 7) .nil))) .nil))))) .nil) .nil) (.cons (.ifs (.cmp .NotIn (.cons (.var 4) (.cons (.sub (.cons (.var 1) (.cons (.str "wants") .nil))) .nil))) (.cons (.set (.nm 5) (.call false "_law_draw" (.cons (.var 0) (.cons (.bin .Add (.cons (.blt .len (.cons (.sub (.cons (.var 1) (.cons (.str "wants") .nil))) .nil)) (.cons (.int 1) .nil))) .nil)))) (.cons (.exp (.cho .insert (.sub (.cons (.var 1) (.cons (.str "wants") .nil))) (.cons (.var 5) (.cons (.var 4) .nil)))) .nil)) .nil) .nil))) .nil) .nil)
def df_law_like_needs : Df := ⟨3, 6, (.cons (.for_ (.nm 3) (.it (.var 2)) lb_law_like_needs_1) .nil)⟩
/-- _law_sum(_law_a, _law_b): 0=_law_a 1=_law_b 2=_law_many_here 3=_law_defs 4=_law_wants 5=_law_open_at 6=_law_signs 7=_law_first 8=_law_one -/
abbrev sx_law_sum : Stmt := top 24
def ns_law_sum : List Str := ["_law_a", "_law_b", "_law_many_here", "_law_defs", "_law_wants", "_law_open_at", "_law_signs", "_law_first", "_law_one"]
def lb_law_sum_1 : E := (.tup (.cons (.sub (.cons (.var 8) (.cons (.int 0) .nil))) (.cons (.bin .Add (.cons (.sub (.cons (.var 8) (.cons (.int 1) .nil))) (.cons (.var 2) .nil))) (.cons (.sub (.cons (.var 8) (.cons (.int 2) .nil))) (.cons (.sub (.cons (.var 8) (.cons (.int 3) .nil))) .nil)))))
def lb_law_sum_2 : E := (.var 8)
def lb_law_sum_3 : E := (.tup (.cons (.bin .Add (.cons (.sub (.cons (.var 8) (.cons (.int 0) .nil))) (.cons (.var 2) .nil))) (.cons (.sub (.cons (.var 8) (.cons (.int 1) .nil))) (.cons (.sub (.cons (.var 8) (.cons (.int 2) .nil))) .nil))))
def lb_law_sum_4 : E := (.tup (.cons (.bin .Add (.cons (.sub (.cons (.var 8) (.cons (.int 0) .nil))) (.cons (.var 2) .nil))) (.cons (.sub (.cons (.var 8) (.cons (.int 1) .nil))) (.cons (.sub (.cons (.var 8) (.cons (.int 2) .nil))) .nil))))
def df_law_sum : Df := ⟨2, 9, (.cons (.set (.nm 2) (.blt .len (.cons (.sub (.cons (.var 0) (.cons (.int 0) .nil))) .nil))) (.cons (.set (.nm 3) (.comp false lb_law_sum_1 (.nm 8) (.it (.sub (.cons (.var 1) (.cons (.int 1) .nil)))) .nil [("_law_one", 8)])) (.cons (.set (.nm 4) (.comp false lb_law_sum_2 (.nm 8) (.it (.sub (.cons (.var 1) (.cons (.int 3) .nil)))) (.cons (.cmp .NotIn (.cons (.var 8) (.cons (.sub (.cons (.var 0) (.cons (.int 3) .nil))) .nil))) .nil) [("_law_one", 8)])) (.cons (.set (.nm 5) (.comp false lb_law_sum_3 (.nm 8) (.it (.sub (.cons (.var 1) (.cons (.int 4) .nil)))) .nil [("_law_one", 8)])) (.cons (.set (.nm 6) (.comp false lb_law_sum_4 (.nm 8) (.it (.sub (.cons (.var 1) (.cons (.int 5) .nil)))) .nil [("_law_one", 8)])) (.cons (.set (.nm 7) (.tup (.cons (.bin .Add (.cons (.sub (.cons (.var 0) (.cons (.int 0) .nil))) (.cons (.sub (.cons (.var 1) (.cons (.int 0) .nil))) .nil))) (.cons (.bin .Add (.cons (.sub (.cons (.var 0) (.cons (.int 1) .nil))) (.cons (.blt .tuple (.cons (.var 3) .nil)) .nil))) (.cons (.bin .Add (.cons (.sub (.cons (.var 0) (.cons (.int 2) .nil))) (.cons (.sub (.cons (.var 1) (.cons (.int 2) .nil))) .nil))) .nil))))) (.cons (.set (.nm 7) (.bin .Add (.cons (.var 7) (.cons (.tup (.cons (.bin .Add (.cons (.sub (.cons (.var 0) (.cons (.int 3) .nil))) (.cons (.blt .tuple (.cons (.var 4) .nil)) .nil))) .nil)) .nil)))) (.cons (.ret (.bin .Add (.cons (.var 7) (.cons (.tup (.cons (.bin .Add (.cons (.sub (.cons (.var 0) (.cons (.int 4) .nil))) (.cons (.blt .tuple (.cons (.var 5) .nil)) .nil))) (.cons (.bin .Add (.cons (.sub (.cons (.var 0) (.cons (.int 5) .nil))) (.cons (.blt .tuple (.cons (.var 6) .nil)) .nil))) .nil))) .nil)))) .nil))))))))⟩
/-- _law_object(_law_due): 0=_law_due -/
abbrev sx_law_object : Stmt := top 25
def ns_law_object : List Str := ["_law_due"]
def df_law_object : Df := ⟨1, 1, (.cons (.ret (.new true "Object" "Object.__init__" (.cons (.sub (.cons (.var 0) (.cons (.int 0) .nil))) (.cons (.sub (.cons (.var 0) (.cons (.int 1) .nil))) (.cons (.sub (.cons (.var 0) (.cons (.int 2) .nil))) (.cons (.sub (.cons (.var 0) (.cons (.int 3) .nil))) (.cons (.sub (.cons (.var 0) (.cons (.int 4) .nil))) (.cons (.sub (.cons (.var 0) (.cons (.int 5) .nil))) .nil)))))))) .nil)⟩
/-- _law_is(_law_one, _law_due): 0=_law_one 1=_law_due -/
abbrev sx_law_is : Stmt := top 26
def ns_law_is : List Str := ["_law_one", "_law_due"]
def df_law_is : Df := ⟨2, 2, (.cons (.ret (.and (.cons (.call true "_law_alike" (.cons (.met true [("Object", "Object.parts")] "parts" (.cons (.var 0) .nil) .nil) (.cons (.var 1) .nil))) (.cons (.call true "_law_alike" (.cons (.prp [("Object", "Object.size")] "size" (.cons (.var 0) .nil)) (.cons (.blt .len (.cons (.sub (.cons (.var 1) (.cons (.int 0) .nil))) .nil)) .nil))) .nil)))) .nil)⟩
/-- law(_law_script): 0=_law_script 1=_law_pool_here 2=_law_table_here 3=_law_things 4=_law_dues 5=_law_a 6=_law_b 7=_law_c 8=_law_both 9=_law_full 10=_law_left 11=_law_turn 12=_law_thing_here -/
abbrev sx_law : Stmt := top 27
def ns_law : List Str := ["_law_script", "_law_pool_here", "_law_table_here", "_law_things", "_law_dues", "_law_a", "_law_b", "_law_c", "_law_both", "_law_full", "_law_left", "_law_turn", "_law_thing_here"]
def lb_law_1 : E := (.call false "_law_thing" (.cons (.var 1) (.cons (.var 2) .nil)))
def lb_law_2 : E := (.call false "_law_parts_of" (.cons (.var 2) (.cons (.var 12) .nil)))
def df_law : Df := ⟨1, 13, (.cons (.set (.nm 1) (.call false "_law_pool" (.cons (.var 0) .nil))) (.cons (.set (.nm 2) (.call true "_law_table" .nil)) (.cons (.set (.nm 3) (.comp false lb_law_1 (.nm 11) (.rg1 (.int 3)) .nil [("_law_turn", 11)])) (.cons (.exp (.call false "_law_like_needs" (.cons (.var 1) (.cons (.sub (.cons (.var 3) (.cons (.int 1) .nil))) (.cons (.blt .list (.cons (.sub (.cons (.sub (.cons (.var 3) (.cons (.int 0) .nil))) (.cons (.str "wants") .nil))) .nil)) .nil))))) (.cons (.exp (.call false "_law_like_needs" (.cons (.var 1) (.cons (.sub (.cons (.var 3) (.cons (.int 2) .nil))) (.cons (.bin .Add (.cons (.sub (.cons (.sub (.cons (.var 3) (.cons (.int 0) .nil))) (.cons (.str "wants") .nil))) (.cons (.sub (.cons (.sub (.cons (.var 3) (.cons (.int 1) .nil))) (.cons (.str "wants") .nil))) .nil))) .nil))))) (.cons (.set (.nm 4) (.comp false lb_law_2 (.nm 12) (.it (.var 3)) .nil [("_law_thing_here", 12)])) (.cons (.set (.nm 5) (.call true "_law_object" (.cons (.sub (.cons (.var 4) (.cons (.int 0) .nil))) .nil))) (.cons (.set (.nm 6) (.call true "_law_object" (.cons (.sub (.cons (.var 4) (.cons (.int 1) .nil))) .nil))) (.cons (.set (.nm 7) (.call true "_law_object" (.cons (.sub (.cons (.var 4) (.cons (.int 2) .nil))) .nil))) (.cons (.set (.nm 8) (.call true "_law_sum" (.cons (.sub (.cons (.var 4) (.cons (.int 0) .nil))) (.cons (.sub (.cons (.var 4) (.cons (.int 1) .nil))) .nil)))) (.cons (.set (.nm 9) (.call true "_law_sum" (.cons (.var 8) (.cons (.sub (.cons (.var 4) (.cons (.int 2) .nil))) .nil)))) (.cons (.set (.nm 10) (.opm [("Object", "Object.__add__")] (.cons (.var 5) (.cons (.var 6) .nil)))) (.cons (.ifs (.or (.cons (.not (.call true "_law_is" (.cons (.var 10) (.cons (.var 8) .nil)))) (.cons (.not (.call true "_law_is" (.cons (.opm [("Object", "Object.__add__")] (.cons (.var 10) (.cons (.var 7) .nil))) (.cons (.var 9) .nil)))) .nil))) (.cons (.ret (.bl false)) .nil) .nil) (.cons (.ifs (.not (.call true "_law_is" (.cons (.opm [("Object", "Object.__add__")] (.cons (.var 6) (.cons (.var 7) .nil))) (.cons (.call true "_law_sum" (.cons (.sub (.cons (.var 4) (.cons (.int 1) .nil))) (.cons (.sub (.cons (.var 4) (.cons (.int 2) .nil))) .nil))) .nil)))) (.cons (.ret (.bl false)) .nil) .nil) (.cons (.ifs (.not (.call true "_law_is" (.cons (.opm [("Object", "Object.__add__")] (.cons (.var 5) (.cons (.opm [("Object", "Object.__add__")] (.cons (.var 6) (.cons (.var 7) .nil))) .nil))) (.cons (.var 9) .nil)))) (.cons (.ret (.bl false)) .nil) .nil) (.cons (.ifs (.not (.call true "_law_is" (.cons (.opm [("Object", "Object.__add__")] (.cons (.var 6) (.cons (.var 6) .nil))) (.cons (.call true "_law_sum" (.cons (.sub (.cons (.var 4) (.cons (.int 1) .nil))) (.cons (.sub (.cons (.var 4) (.cons (.int 1) .nil))) .nil))) .nil)))) (.cons (.ret (.bl false)) .nil) .nil) (.cons (.ifs (.or (.cons (.not (.call true "_law_is" (.cons (.var 10) (.cons (.var 8) .nil)))) (.cons (.not (.call true "_law_is" (.cons (.opm [("Object", "Object.__add__")] (.cons (.var 5) (.cons (.var 6) .nil))) (.cons (.var 8) .nil)))) .nil))) (.cons (.ret (.bl false)) .nil) .nil) (.cons (.ret (.and (.cons (.call true "_law_is" (.cons (.var 5) (.cons (.sub (.cons (.var 4) (.cons (.int 0) .nil))) .nil))) (.cons (.call true "_law_is" (.cons (.var 6) (.cons (.sub (.cons (.var 4) (.cons (.int 1) .nil))) .nil))) (.cons (.call true "_law_is" (.cons (.var 7) (.cons (.sub (.cons (.var 4) (.cons (.int 2) .nil))) .nil))) .nil))))) .nil))))))))))))))))))⟩
def tb : List (Str × Df) := [("Object.__init__", df_Object_init), ("Object.parts", df_Object_parts), ("Object.size", df_Object_size), ("Object.__add__", df_Object__add), ("_law_pool", df_law_pool), ("_law_draw", df_law_draw), ("_law_pick", df_law_pick), ("_law_word", df_law_word), ("_law_alike", df_law_alike), ("_law_table", df_law_table), ("_law_encoded", df_law_encoded), ("_law_edge", df_law_edge), ("_law_drawn_row", df_law_drawn_row), ("_law_title", df_law_title), ("_law_many", df_law_many), ("_law_long", df_law_long), ("_law_want", df_law_want), ("_law_datum", df_law_datum), ("_law_chain", df_law_chain), ("_law_open_row", df_law_open_row), ("_law_one_word", df_law_one_word), ("_law_thing", df_law_thing), ("_law_parts_of", df_law_parts_of), ("_law_like_needs", df_law_like_needs), ("_law_sum", df_law_sum), ("_law_object", df_law_object), ("_law_is", df_law_is)]
def gl : List (Str × D) := [("bool", .ty "bool"), ("int", .ty "int"), ("list", .ty "list"), ("str", .ty "str"), ("tuple", .ty "tuple")]
def ct : Ct := ⟨[("Object", "data"), ("Object", "functions"), ("Object", "marks"), ("Object", "needs"), ("Object", "places"), ("Object", "words")], [("Object", "Object.__init__")], [("Object", "parts", "Object.parts")], [], [], [], [], [], [], [("Object", "size", "Object.size")], [("Object", "Object.__add__")]⟩
def dnl : List Str := ["_law_pool", "_law_draw", "_law_pick", "_law_word", "_law_alike", "_law_table", "_law_encoded", "_law_edge", "_law_drawn_row", "_law_title", "_law_many", "_law_long", "_law_want", "_law_datum", "_law_chain", "_law_open_row", "_law_one_word", "_law_thing", "_law_parts_of", "_law_like_needs", "_law_sum", "_law_object", "_law_is"]
abbrev GG : Glb := glbOf gl
abbrev TT (k : Nat) : Tab := tab (fun f => tb.lookup f) GG k
end Lk60
namespace Lk60
open PySem PySem.Spec PyProof.Rows L2 Pv
def dd_Object_init : He.DefD := ⟨("Object", some "__init__"), "__init__", "Object.__init__", defArgs sx_Object_init, defBody sx_Object_init, defScope sx_Object_init, [], []⟩
def dd_Object_parts : He.DefD := ⟨("Object", some "parts"), "parts", "Object.parts", defArgs sx_Object_parts, defBody sx_Object_parts, defScope sx_Object_parts, [], []⟩
def pd_Object_size : PrD := ⟨"Object", "size", "size", "Object.size", defArgs sx_Object_size, defBody sx_Object_size, defScope sx_Object_size⟩
def dd_Object__add : He.DefD := ⟨("Object", some "__add__"), "__add__", "Object.__add__", defArgs sx_Object__add, defBody sx_Object__add, defScope sx_Object__add, [], []⟩
def dd_law_pool : He.DefD := ⟨("_law_pool", none), "_law_pool", "_law_pool", defArgs sx_law_pool, defBody sx_law_pool, defScope sx_law_pool, [], []⟩
def dd_law_draw : He.DefD := ⟨("_law_draw", none), "_law_draw", "_law_draw", defArgs sx_law_draw, defBody sx_law_draw, defScope sx_law_draw, [], []⟩
def dd_law_pick : He.DefD := ⟨("_law_pick", none), "_law_pick", "_law_pick", defArgs sx_law_pick, defBody sx_law_pick, defScope sx_law_pick, [], []⟩
def dd_law_word : He.DefD := ⟨("_law_word", none), "_law_word", "_law_word", defArgs sx_law_word, defBody sx_law_word, defScope sx_law_word, [], []⟩
def dd_law_alike : He.DefD := ⟨("_law_alike", none), "_law_alike", "_law_alike", defArgs sx_law_alike, defBody sx_law_alike, defScope sx_law_alike, [], []⟩
def dd_law_table : He.DefD := ⟨("_law_table", none), "_law_table", "_law_table", defArgs sx_law_table, defBody sx_law_table, defScope sx_law_table, [], []⟩
def dd_law_encoded : He.DefD := ⟨("_law_encoded", none), "_law_encoded", "_law_encoded", defArgs sx_law_encoded, defBody sx_law_encoded, defScope sx_law_encoded, [], []⟩
def dd_law_edge : He.DefD := ⟨("_law_edge", none), "_law_edge", "_law_edge", defArgs sx_law_edge, defBody sx_law_edge, defScope sx_law_edge, [], []⟩
def dd_law_drawn_row : He.DefD := ⟨("_law_drawn_row", none), "_law_drawn_row", "_law_drawn_row", defArgs sx_law_drawn_row, defBody sx_law_drawn_row, defScope sx_law_drawn_row, [], []⟩
def dd_law_title : He.DefD := ⟨("_law_title", none), "_law_title", "_law_title", defArgs sx_law_title, defBody sx_law_title, defScope sx_law_title, [], []⟩
def dd_law_many : He.DefD := ⟨("_law_many", none), "_law_many", "_law_many", defArgs sx_law_many, defBody sx_law_many, defScope sx_law_many, [], []⟩
def dd_law_long : He.DefD := ⟨("_law_long", none), "_law_long", "_law_long", defArgs sx_law_long, defBody sx_law_long, defScope sx_law_long, [], []⟩
def dd_law_want : He.DefD := ⟨("_law_want", none), "_law_want", "_law_want", defArgs sx_law_want, defBody sx_law_want, defScope sx_law_want, [], []⟩
def dd_law_datum : He.DefD := ⟨("_law_datum", none), "_law_datum", "_law_datum", defArgs sx_law_datum, defBody sx_law_datum, defScope sx_law_datum, [], []⟩
def dd_law_chain : He.DefD := ⟨("_law_chain", none), "_law_chain", "_law_chain", defArgs sx_law_chain, defBody sx_law_chain, defScope sx_law_chain, [], []⟩
def dd_law_open_row : He.DefD := ⟨("_law_open_row", none), "_law_open_row", "_law_open_row", defArgs sx_law_open_row, defBody sx_law_open_row, defScope sx_law_open_row, [], []⟩
def dd_law_one_word : He.DefD := ⟨("_law_one_word", none), "_law_one_word", "_law_one_word", defArgs sx_law_one_word, defBody sx_law_one_word, defScope sx_law_one_word, [], []⟩
def dd_law_thing : He.DefD := ⟨("_law_thing", none), "_law_thing", "_law_thing", defArgs sx_law_thing, defBody sx_law_thing, defScope sx_law_thing, [], []⟩
def dd_law_parts_of : He.DefD := ⟨("_law_parts_of", none), "_law_parts_of", "_law_parts_of", defArgs sx_law_parts_of, defBody sx_law_parts_of, defScope sx_law_parts_of, [], []⟩
def dd_law_like_needs : He.DefD := ⟨("_law_like_needs", none), "_law_like_needs", "_law_like_needs", defArgs sx_law_like_needs, defBody sx_law_like_needs, defScope sx_law_like_needs, [], []⟩
def dd_law_sum : He.DefD := ⟨("_law_sum", none), "_law_sum", "_law_sum", defArgs sx_law_sum, defBody sx_law_sum, defScope sx_law_sum, [], []⟩
def dd_law_object : He.DefD := ⟨("_law_object", none), "_law_object", "_law_object", defArgs sx_law_object, defBody sx_law_object, defScope sx_law_object, [], []⟩
def dd_law_is : He.DefD := ⟨("_law_is", none), "_law_is", "_law_is", defArgs sx_law_is, defBody sx_law_is, defScope sx_law_is, [], []⟩
def dd_law : He.DefD := ⟨("law", none), "law", "law", defArgs sx_law, defBody sx_law, defScope sx_law, [], []⟩
def hfn : List He.DefD := ([dd_Object_init, dd_Object_parts, dd_Object__add, dd_law_pool, dd_law_draw, dd_law_pick, dd_law_word, dd_law_alike, dd_law_table, dd_law_encoded, dd_law_edge, dd_law_drawn_row, dd_law_title, dd_law_many, dd_law_long, dd_law_want, dd_law_datum, dd_law_chain, dd_law_open_row, dd_law_one_word, dd_law_thing, dd_law_parts_of, dd_law_like_needs, dd_law_sum, dd_law_object, dd_law_is, dd_law] : List He.DefD)
def hgl : List Str := (["_law_pool", "_law_draw", "_law_pick", "_law_word", "_law_alike", "_law_table", "_law_encoded", "_law_edge", "_law_drawn_row", "_law_title", "_law_many", "_law_long", "_law_want", "_law_datum", "_law_chain", "_law_open_row", "_law_one_word", "_law_thing", "_law_parts_of", "_law_like_needs", "_law_sum", "_law_object", "_law_is", "law", "Object"] : List Str)
def hcl : List He.Fa := [.cls "Object", .mkr "Object", .meth "Object" "__init__", .meth "Object" "parts", .meth "Object" "__add__", .noat "Object" "data", .noat "Object" "functions", .noat "Object" "marks", .noat "Object" "needs", .noat "Object" "places", .noat "Object" "words"]
def hfr : List Str := (["len", "abs", "int", "list", "tuple", "max", "min", "isinstance", "range", "reversed", "zip", "enumerate", "all", "any", "sum", "sorted", "str", "dict", "set", "bool"] : List Str)
def hfs : List He.Fa := (hgl.map He.Fa.glo ++ hfr.map He.Fa.free) ++ hcl
def hts : List He.Tab := ([] : List He.Tab)
def hex (K : PySem.W.Frag) : Bool := onB K ct && true
abbrev hR : PySem.W.OpenRow := PySem.W.OpenLaw.row PySem.Challenge.rw_sameruns_k60_join_brackets
def hpr : List PrD := ([pd_Object_size] : List PrD)
abbrev hk : PySem.W.Hook := hookP 6 hfs hfn hts hex hpr
def ob (s : PySem.W.SharedT) : AlP := obsP 6 hfs hfn hts hex hpr (HandSHeadRun.getT s)
theorem ob_eq (s : PySem.W.SharedT) : ob s = hk.obs s.abs := obsP_eq (HandSHeadRun.getT_eq s)
def loose : List Str := (["_wall", "Object", "_law_pool", "_law_draw", "_law_pick", "_law_word", "_law_alike", "_law_table", "_law_encoded", "_law_edge", "_law_drawn_row", "_law_title", "_law_many", "_law_long", "_law_want", "_law_datum", "_law_chain", "_law_open_row", "_law_one_word", "_law_thing", "_law_parts_of", "_law_like_needs", "_law_sum", "_law_object", "_law_is"] : List Str)
theorem run_f (w : World) : HandSHeadRun.RunEq hR (PySem.W.view hR.prog [27]) hk ob 30000 loose (w.withFollow "special-get-raises" false) := by
  intro os; kernel_rfl
theorem run_t (w : World) : HandSHeadRun.RunEq hR (PySem.W.view hR.prog [27]) hk ob 30000 loose (w.withFollow "special-get-raises" true) := by
  intro os; kernel_rfl
theorem run (w : World) : HandSHeadRun.RunEq hR (PySem.W.view hR.prog [27]) hk ob 30000 loose w :=
  PySem.W.byRow2 "special-get-raises" (P := fun w => HandSHeadRun.RunEq hR (PySem.W.view hR.prog [27]) hk ob 30000 loose w) run_f run_t w
end Lk60
namespace Pv
open PySem PySem.Spec PyProof.Rows L2

/-! ## values in the heap -/
abbrev Zn := Addr → Prop
/-- a list that never changes -/
def LsF (K : PySem.W.Frag) (H : Hp) (F : Zn) (a : Addr) (xs : List V) : Prop := (F a ∧ Rd H a (.lst xs)) ∨
    ∃ (o : Obj) (its : Array Value) (n : Nat), K.lookup a = some o ∧ o.cls = .type "list" ∧ o.dict = none ∧ o.data = .seq its n ∧ its.size ≤ sizeLine ∧ Vals xs its.toList
theorem LsF.sq {K : PySem.W.Frag} {H : Hp} {F : Zn} {a : Addr} {xs : List V} (h : LsF K H F a xs) : SqL K H a xs := h.elim (fun h => .inl h.2) .inr
theorem LsF.of {K : PySem.W.Frag} {H : Hp} {F : Zn} {a : Addr} {xs : List V} (h : F a) (r : Rd H a (.lst xs)) : LsF K H F a xs := .inl ⟨h, r⟩
def keyD : L2.Key → D
  | .inl i => .int i
  | .inr x => .str x
/-- the class c of the module -/
def ClsAt (K : PySem.W.Frag) (c : Str) (C : Addr) : Prop := PySem.W.nsIn K mainGlobals c = some (some (.ref C))
mutual
inductive Rep (K : PySem.W.Frag) (H : Hp) (F : Zn) (io : List Addr) : V → D → Prop
  | non : Rep K H F io .non .none
  | bl (b : Bool) : Rep K H F io (.bl b) (.bool b)
  | int (i : Int) : Rep K H F io (.int i) (.int i)
  | str (x : Str) : Rep K H F io (.str x) (.str x)
  | ty (n : String) : Rep K H F io (.ty n) (.ty n)
  | tup {a : Addr} {xs : List V} {ds : List D} : SqT K H a xs → RepL K H F io xs ds → Rep K H F io (.ref a) (.tup ds)
  | lst {a : Addr} {xs : List V} {ds : List D} : LsF K H F a xs → RepL K H F io xs ds → Rep K H F io (.ref a) (.lst ds)
  | loc {a : Addr} {n : Nat} : io[n]? = some a → Rep K H F io (.ref a) (.loc n)
  | dic {a : Addr} {kvs : List (L2.Key × V)} {ds : List (D × D)} : F a → Rd H a (.dK kvs) → RepK K H F io kvs ds → Rep K H F io (.ref a) (.dic ds)
  | obj {a C dx : Addr} {c : Str} {fs : List (Str × V)} {gs : List (Str × D)} : F a → H a = some (.ins C dx fs) → ClsAt K c C → RepF K H F io fs gs → Rep K H F io (.ref a) (.obj c gs)
inductive RepL (K : PySem.W.Frag) (H : Hp) (F : Zn) (io : List Addr) : List V → List D → Prop
  | nil : RepL K H F io [] []
  | cons {v : V} {vs : List V} {d : D} {ds : List D} : Rep K H F io v d → RepL K H F io vs ds → RepL K H F io (v :: vs) (d :: ds)
inductive RepK (K : PySem.W.Frag) (H : Hp) (F : Zn) (io : List Addr) : List (L2.Key × V) → List (D × D) → Prop
  | nil : RepK K H F io [] []
  | cons {k : L2.Key} {v : V} {kvs : List (L2.Key × V)} {c d : D} {ds : List (D × D)} : c = keyD k → Rep K H F io v d → RepK K H F io kvs ds → RepK K H F io ((k, v) :: kvs) ((c, d) :: ds)
inductive RepF (K : PySem.W.Frag) (H : Hp) (F : Zn) (io : List Addr) : List (Str × V) → List (Str × D) → Prop
  | nil : RepF K H F io [] []
  | cons {k c : Str} {v : V} {kvs : List (Str × V)} {d : D} {ds : List (Str × D)} : c = k → Rep K H F io v d → RepF K H F io kvs ds → RepF K H F io ((k, v) :: kvs) ((c, d) :: ds)
end
/-- an object that may change -/
def HO.isMut : HO → Prop
  | .lst _ | .dK _ | .ins _ _ _ => True
  | _ => False
/-- what stays -/
structure Ext (F : Zn) (io : List Addr) (H : Hp) (F' : Zn) (io' : List Addr) (H' : Hp) : Prop where
  ff : ∀ a, F a → F' a
  rd : ∀ a u, F a → HO.isMut u → Rd H a u → Rd H' a u
  tp : ∀ a xs, Rd H a (.tup xs) → Rd H' a (.tup xs)
  ins : ∀ a C dx fs, F a → H a = some (.ins C dx fs) → H' a = some (.ins C dx fs)
  io : ∃ l, io' = io ++ l
theorem Ext.refl (F : Zn) (io : List Addr) (H : Hp) : Ext F io H F io H := ⟨fun _ h => h, fun _ _ _ _ h => h, fun _ _ h => h, fun _ _ _ _ _ h => h, [], by simp⟩
theorem Ext.trans {F F1 F2 : Zn} {io io1 io2 : List Addr} {H H1 H2 : Hp} (a : Ext F io H F1 io1 H1) (b : Ext F1 io1 H1 F2 io2 H2) : Ext F io H F2 io2 H2 :=
  ⟨fun c h => b.ff c (a.ff c h), fun c u h m r => b.rd c u (a.ff c h) m (a.rd c u h m r), fun c xs r => b.tp c xs (a.tp c xs r), fun c C dx fs h r => b.ins c C dx fs (a.ff c h) (a.ins c C dx fs h r), by
    obtain ⟨l, e⟩ := a.io; obtain ⟨m, e'⟩ := b.io; exact ⟨l ++ m, by rw [e', e, List.append_assoc]⟩⟩
section
variable {K : PySem.W.Frag} {F F' : Zn} {io io' : List Addr} {H H' : Hp}
theorem Ext.get (x : Ext F io H F' io' H') {n : Nat} {a : Addr} (h : io[n]? = some a) : io'[n]? = some a := by
  obtain ⟨l, e⟩ := x.io
  obtain ⟨hn, _⟩ := List.getElem?_eq_some_iff.mp h
  rw [e, List.getElem?_append_left hn, h]
theorem LsF.ext {a : Addr} {xs : List V} (x : Ext F io H F' io' H') (h : LsF K H F a xs) : LsF K H' F' a xs := h.elim (fun h => .inl ⟨x.ff _ h.1, x.rd _ _ h.1 trivial h.2⟩) .inr
theorem sqT_ext {a : Addr} {xs : List V} (x : Ext F io H F' io' H') (h : SqT K H a xs) : SqT K H' a xs := by
  rcases h with h | h
  · exact .inl (x.tp _ _ h)
  · exact .inr h
mutual
theorem Rep.ext (x : Ext F io H F' io' H') : ∀ {d : D} {v : V}, Rep K H F io v d → Rep K H' F' io' v d
  | .none, _, h => by cases h; exact .non
  | .bool _, _, h => by cases h; exact .bl _
  | .int _, _, h => by cases h; exact .int _
  | .str _, _, h => by cases h; exact .str _
  | .ty _, _, h => by cases h; exact .ty _
  | .tup ds, _, h => by cases h with | tup s l => exact .tup (sqT_ext x s) (RepL.ext x l)
  | .lst ds, _, h => by cases h with | lst s l => exact .lst (s.ext x) (RepL.ext x l)
  | .dic ds, _, h => by cases h with | dic f r l => exact .dic (x.ff _ f) (x.rd _ _ f trivial r) (RepK.ext x l)
  | .loc n, _, h => by cases h with | loc e => exact .loc (x.get e)
  | .obj c gs, _, h => by cases h with | obj f r k l => exact .obj (x.ff _ f) (x.ins _ _ _ _ f r) k (RepF.ext x l)
theorem RepL.ext (x : Ext F io H F' io' H') : ∀ {ds : List D} {vs : List V}, RepL K H F io vs ds → RepL K H' F' io' vs ds
  | [], _, h => by cases h; exact .nil
  | d :: ds, _, h => by cases h with | cons a b => exact .cons (Rep.ext x a) (RepL.ext x b)
theorem RepK.ext (x : Ext F io H F' io' H') : ∀ {ds : List (D × D)} {vs : List (L2.Key × V)}, RepK K H F io vs ds → RepK K H' F' io' vs ds
  | [], _, h => by cases h; exact .nil
  | (c, d) :: ds, _, h => by cases h with | cons e a b => exact .cons e (Rep.ext x a) (RepK.ext x b)
theorem RepF.ext (x : Ext F io H F' io' H') : ∀ {ds : List (Str × D)} {vs : List (Str × V)}, RepF K H F io vs ds → RepF K H' F' io' vs ds
  | [], _, h => by cases h; exact .nil
  | (c, d) :: ds, _, h => by cases h with | cons e a b => exact .cons e (Rep.ext x a) (RepF.ext x b)
end
theorem RepL.length {vs : List V} {ds : List D} (h : RepL K H F io vs ds) : vs.length = ds.length := by
  induction ds generalizing vs with
  | nil => cases h; rfl
  | cons d ds ih => cases h with | cons a b => simp [ih b]
theorem RepL.get {i : Nat} : ∀ {vs : List V} {ds : List D} {d : D}, RepL K H F io vs ds → ds[i]? = some d → ∃ v, vs[i]? = some v ∧ Rep K H F io v d := by
  induction i with
  | zero => intro vs ds d h e; cases h with
    | nil => simp at e
    | cons a b => simp at e; subst e; exact ⟨_, rfl, a⟩
  | succ i ih => intro vs ds d h e; cases h with
    | nil => simp at e
    | cons a b => simpa using ih b (by simpa using e)
theorem RepL.append {vs ws : List V} {ds es : List D} (h : RepL K H F io vs ds) (h' : RepL K H F io ws es) : RepL K H F io (vs ++ ws) (ds ++ es) := by
  induction ds generalizing vs with
  | nil => cases h; exact h'
  | cons d ds ih => cases h with | cons a b => exact .cons a (ih b)
theorem RepL.reps {vs : List V} {ds : List D} (h : RepL K H F io vs ds) : ∀ n : Nat, RepL K H F io (List.replicate n vs).flatten (List.replicate n ds).flatten
  | 0 => .nil
  | n + 1 => by
    rw [List.replicate_succ, List.replicate_succ, List.flatten_cons, List.flatten_cons]
    exact h.append (RepL.reps h n)
theorem RepL.snoc {vs : List V} {ds : List D} {v : V} {d : D} (h : RepL K H F io vs ds) (h' : Rep K H F io v d) : RepL K H F io (vs ++ [v]) (ds ++ [d]) := h.append (.cons h' .nil)
theorem RepL.drop {vs : List V} {ds : List D} (n : Nat) (h : RepL K H F io vs ds) : RepL K H F io (vs.drop n) (ds.drop n) := by
  induction n generalizing vs ds with
  | zero => exact h
  | succ n ih => cases h with
    | nil => exact .nil
    | cons a b => exact ih b
theorem RepL.take {vs : List V} {ds : List D} (n : Nat) (h : RepL K H F io vs ds) : RepL K H F io (vs.take n) (ds.take n) := by
  induction n generalizing vs ds with
  | zero => exact .nil
  | succ n ih => cases h with
    | nil => exact .nil
    | cons a b => exact .cons a (ih b)
theorem RepL.set {vs : List V} {ds : List D} {v : V} {d : D} (n : Nat) (h : RepL K H F io vs ds) (h' : Rep K H F io v d) : RepL K H F io (vs.set n v) (ds.set n d) := by
  induction n generalizing vs ds with
  | zero => cases h with
    | nil => exact .nil
    | cons a b => exact .cons h' b
  | succ n ih => cases h with
    | nil => exact .nil
    | cons a b => exact .cons a (ih b)
theorem RepL.eraseIdx {vs : List V} {ds : List D} (n : Nat) (h : RepL K H F io vs ds) : RepL K H F io (vs.eraseIdx n) (ds.eraseIdx n) := by
  induction n generalizing vs ds with
  | zero => cases h with
    | nil => exact .nil
    | cons a b => exact b
  | succ n ih => cases h with
    | nil => exact .nil
    | cons a b => exact .cons a (ih b)
theorem RepL.reverse {vs : List V} {ds : List D} (h : RepL K H F io vs ds) : RepL K H F io vs.reverse ds.reverse := by
  induction ds generalizing vs with
  | nil => cases h; exact .nil
  | cons d ds ih => cases h with
    | cons a b => rw [List.reverse_cons, List.reverse_cons]; exact (ih b).snoc a
theorem RepL.dropLast {vs : List V} {ds : List D} (h : RepL K H F io vs ds) : RepL K H F io vs.dropLast ds.dropLast := by
  rw [List.dropLast_eq_take, List.dropLast_eq_take, h.length]; exact h.take _
mutual
/-- what holds no list, dict or store object stands wherever the tuples stand -/
theorem Rep.imm (tp : ∀ a xs, Rd H a (.tup xs) → Rd H' a (.tup xs)) : ∀ {d : D} {v : V}, d.imm = true → Rep K H F io v d → Rep K H' F' io' v d
  | .none, _, _, h => by cases h; exact .non
  | .bool _, _, _, h => by cases h; exact .bl _
  | .int _, _, _, h => by cases h; exact .int _
  | .str _, _, _, h => by cases h; exact .str _
  | .ty _, _, _, h => by cases h; exact .ty _
  | .tup ds, _, i, h => by
    cases h with
    | tup s l => exact .tup (by rcases s with s | s; exact .inl (tp _ _ s); exact .inr s) (RepL.imm tp (by simpa [D.imm] using i) l)
  | .lst ds, _, i, h => by simp [D.imm] at i
  | .dic _, _, i, h => by simp [D.imm] at i
  | .loc n, _, i, h => by simp [D.imm] at i
  | .obj _ _, _, i, h => by simp [D.imm] at i
theorem RepL.imm (tp : ∀ a xs, Rd H a (.tup xs) → Rd H' a (.tup xs)) : ∀ {ds : List D} {vs : List V}, immL ds = true → RepL K H F io vs ds → RepL K H' F' io' vs ds
  | [], _, _, h => by cases h; exact .nil
  | d :: ds, _, i, h => by
    cases h with
    | cons a b =>
      simp only [immL, Bool.and_eq_true] at i
      exact .cons (Rep.imm tp i.1 a) (RepL.imm tp i.2 b)
end
mutual
/-- what holds no store object does not know the store -/
theorem Rep.nol (io' : List Addr) : ∀ {d : D} {v : V}, d.nol = true → Rep K H F io v d → Rep K H F io' v d
  | .none, _, _, h => by cases h; exact .non
  | .bool _, _, _, h => by cases h; exact .bl _
  | .int _, _, _, h => by cases h; exact .int _
  | .str _, _, _, h => by cases h; exact .str _
  | .ty _, _, _, h => by cases h; exact .ty _
  | .tup ds, _, i, h => by
    cases h with
    | tup s l => exact .tup s (RepL.nol io' (by simpa [D.nol] using i) l)
  | .lst ds, _, i, h => by
    cases h with
    | lst s l => exact .lst s (RepL.nol io' (by simpa [D.nol] using i) l)
  | .dic ds, _, i, h => by
    cases h with
    | dic f r l => exact .dic f r (RepK.nol io' (by simpa [D.nol] using i) l)
  | .obj c gs, _, i, h => by
    cases h with
    | obj f r k l => exact .obj f r k (RepF.nol io' (by simpa [D.nol] using i) l)
  | .loc n, _, i, h => by simp [D.nol] at i
theorem RepL.nol (io' : List Addr) : ∀ {ds : List D} {vs : List V}, nolL ds = true → RepL K H F io vs ds → RepL K H F io' vs ds
  | [], _, _, h => by cases h; exact .nil
  | d :: ds, _, i, h => by
    cases h with
    | cons a b =>
      simp only [nolL, Bool.and_eq_true] at i
      exact .cons (Rep.nol io' i.1 a) (RepL.nol io' i.2 b)
theorem RepK.nol (io' : List Addr) : ∀ {ds : List (D × D)} {vs : List (L2.Key × V)}, nolK ds = true → RepK K H F io vs ds → RepK K H F io' vs ds
  | [], _, _, h => by cases h; exact .nil
  | (c, d) :: ds, _, i, h => by
    cases h with
    | cons e a b =>
      simp only [nolK, Bool.and_eq_true] at i
      exact .cons e (Rep.nol io' i.1.2 a) (RepK.nol io' i.2 b)
theorem RepF.nol (io' : List Addr) : ∀ {ds : List (Str × D)} {vs : List (Str × V)}, nolF ds = true → RepF K H F io vs ds → RepF K H F io' vs ds
  | [], _, _, h => by cases h; exact .nil
  | (c, d) :: ds, _, i, h => by
    cases h with
    | cons e a b =>
      simp only [nolF, Bool.and_eq_true] at i
      exact .cons e (Rep.nol io' i.1 a) (RepF.nol io' i.2 b)
end
end

/-! ## states -/
/-- an object of the heap is d -/
inductive HoR (K : PySem.W.Frag) (H : Hp) (F : Zn) (io : List Addr) : HO → D → Prop
  | lst {vs : List V} {ds : List D} : RepL K H F io vs ds → HoR K H F io (.lst vs) (.lst ds)
  | dic {kvs : List (L2.Key × V)} {ds : List (D × D)} : RepK K H F io kvs ds → HoR K H F io (.dK kvs) (.dic ds)
  | obj {C dx : Addr} {c : Str} {fs : List (Str × V)} {gs : List (Str × D)} : ClsAt K c C → RepF K H F io fs gs → HoR K H F io (.ins C dx fs) (.obj c gs)
theorem HoR.ext {K : PySem.W.Frag} {F F' : Zn} {io io' : List Addr} {H H' : Hp} {u : HO} {d : D} (x : Ext F io H F' io' H') (h : HoR K H F io u d) : HoR K H' F' io' u d := by
  cases h with
  | lst r => exact .lst (r.ext x)
  | dic r => exact .dic (r.ext x)
  | obj c r => exact .obj c (r.ext x)
theorem HoR.imm {K : PySem.W.Frag} {F F' : Zn} {io io' : List Addr} {H H' : Hp} {u : HO} {d : D} (tp : ∀ a xs, Rd H a (.tup xs) → Rd H' a (.tup xs)) (i : immH d = true) (h : HoR K H F io u d) : HoR K H' F' io' u d := by
  cases h with
  | lst r => exact .lst (r.imm tp i)
  | @dic kvs ds r =>
    refine .dic ?_
    have i : immK ds = true := i
    induction ds generalizing kvs with
    | nil => cases r; exact .nil
    | cons d ds ih =>
      cases r with
      | cons e a b =>
        simp only [immK, Bool.and_eq_true] at i
        exact .cons e (a.imm tp i.1) (ih b i.2 i.2)
  | @obj C dx c fs gs k r =>
    refine .obj k ?_
    have i : immF gs = true := i
    clear k
    induction gs generalizing fs with
    | nil => cases r; exact .nil
    | cons d ds ih =>
      cases r with
      | cons e a b =>
        simp only [immF, Bool.and_eq_true] at i
        exact .cons e (a.imm tp i.1) (ih b i.2 i.2)
theorem HoR.nol {K : PySem.W.Frag} {F : Zn} {io : List Addr} {H : Hp} {u : HO} {d : D} (io' : List Addr) (i : d.nol = true) (h : HoR K H F io u d) : HoR K H F io' u d := by
  cases h with
  | lst r => exact .lst (r.nol io' (by simpa [D.nol] using i))
  | dic r => exact .dic (r.nol io' (by simpa [D.nol] using i))
  | obj k r => exact .obj k (r.nol io' (by simpa [D.nol] using i))
theorem HoR.notImm {K : PySem.W.Frag} {F : Zn} {io : List Addr} {H : Hp} {u : HO} {d : D} (h : HoR K H F io u d) : d.imm = false := by cases h <;> simp [D.imm]
theorem HoR.mut {K : PySem.W.Frag} {F : Zn} {io : List Addr} {H : Hp} {u : HO} {d : D} (h : HoR K H F io u d) : HO.isMut u := by cases h <;> trivial
theorem isMut_tup {xs : List V} : ¬ HO.isMut (.tup xs) := fun h => h
theorem isMut_frz {o : Obj} {u : HO} : ¬ HO.isMut (.frz o u) := fun h => h
/-- the object at a is d -/
def Ob (K : PySem.W.Frag) (H : Hp) (F : Zn) (io : List Addr) (a : Addr) (d : D) : Prop :=
  ∃ u, H a = some u ∧ HoR K H F io u d
theorem Ob.ext {K : PySem.W.Frag} {F F' : Zn} {io io' : List Addr} {H H' : Hp} {a : Addr} {d : D} (x : Ext F io H F' io' H') (e : H' a = H a) (h : Ob K H F io a d) : Ob K H' F' io' a d := by
  obtain ⟨u, h, r⟩ := h
  exact ⟨u, e.trans h, r.ext x⟩
/-- a caught error: where it stands, what it is, its class, its dict -/
structure Xat where
  a : Addr
  x : Xc
  C : Addr
  dd : Option Addr
  fs : List (Str × V)
/-- the entry of a def: the heap, the store's addresses -/
structure Zo where
  H0 : Hp
  i0 : List Addr
  F0 : Zn
  /-- the error that the suite holds -/
  xa : Option Xat
structure Cel (K : PySem.W.Frag) (F : Zn) (io : List Addr) (st : Sto) (H : Hp) : Prop where
  dom : ∀ a, F a → ∃ u, H a = some u
  len : io.length = st.length
  nd : io.Nodup
  nof : ∀ a ∈ io, ¬ F a
  cell : ∀ (n : Nat) (a : Addr) (d : D), io[n]? = some a → st[n]? = some d → Ob K H F io a d
/-- the error at a is x, its dict is to stay -/
def XaOk (z : Zo) (a : Addr) (x : Xc) : Prop := ∃ (C : Addr) (dd : Option Addr) (fs : List (Str × V)), z.xa = some ⟨a, x, C, dd, fs⟩ ∧ ∀ b, dd = some b → z.H0 b = some (.xd fs) ∧ b ∉ z.i0
structure SR (K : PySem.W.Frag) (z : Zo) (F : Zn) (io : List Addr) (e : En) (st : Sto) (σ : L2.St) (H : Hp) : Prop where
  cel : Cel K F io st H
  el : e.length = σ.length
  fr : ∀ (i : Nat) (d : D), e[i]? = some (.fr d) → ∃ v, σ[i]? = some (some v) ∧ Rep K H F io v d
  ow : ∀ (i : Nat) (d : D), e[i]? = some (.ow d) → ∃ a, σ[i]? = some (some (.ref a)) ∧ Ob K H F io a d ∧ ¬ F a ∧ a ∉ io ∧ z.H0 a = none
  sep : ∀ (i j : Nat) (d d' : D) (a : Addr), e[i]? = some (.ow d) → e[j]? = some (.ow d') → σ[i]? = some (some (.ref a)) → σ[j]? = some (some (.ref a)) → i = j
  frm : ∀ a u, z.H0 a = some u → a ∉ z.i0 → H a = some u
  pre : ∃ l, io = z.i0 ++ l ∧ ∀ a ∈ l, z.H0 a = none
  fnw : ∀ a, F a → z.F0 a ∨ z.H0 a = none
  xc : ∀ (i : Nat) (x : Xc), e[i]? = some (.xc x) → ∃ a, XaOk z a x ∧ σ[i]? = some (some (.ref a))
theorem Ob.there {K : PySem.W.Frag} {F : Zn} {io : List Addr} {H : Hp} {a : Addr} {d : D} (h : Ob K H F io a d) : ∃ u, H a = some u := by
  obtain ⟨u, h, _⟩ := h
  exact ⟨_, h⟩
/-- an own list or dict at v -/
def OwR (K : PySem.W.Frag) (z : Zo) (H : Hp) (F : Zn) (io : List Addr) (e : En) (σ : L2.St) (v : V) (d : D) : Prop :=
  ∃ a, v = .ref a ∧ Ob K H F io a d ∧ ¬ F a ∧ a ∉ io ∧ z.H0 a = none ∧ ∀ (i : Nat) (d' : D), e[i]? = some (.ow d') → σ[i]? ≠ some (some (.ref a))
def VR (K : PySem.W.Frag) (z : Zo) (H : Hp) (F : Zn) (io : List Addr) (e : En) (σ : L2.St) (v : V) (r : DB) : Prop :=
  if r.2 then OwR K z H F io e σ v r.1 else Rep K H F io v r.1
/-- behind an expression: what it gives is r -/
def PoE (K : PySem.W.Frag) (z : Zo) (F : Zn) (io : List Addr) (H : Hp) (e' : En) (st' : Sto) (σ : L2.St) (r : DB) (v : V) (H' : Hp) : Prop :=
  ∃ F' io', Ext F io H F' io' H' ∧ SR K z F' io' e' st' σ H' ∧ VR K z H' F' io' e' σ v r
def PoF (K : PySem.W.Frag) (z : Zo) (F : Zn) (io : List Addr) (H : Hp) (e' : En) (st' : Sto) (σ : L2.St) (d : D) (v : V) (H' : Hp) : Prop :=
  ∃ F' io', Ext F io H F' io' H' ∧ SR K z F' io' e' st' σ H' ∧ Rep K H' F' io' v d
section
variable {K : PySem.W.Frag} {z : Zo} {F F' : Zn} {io io' : List Addr} {H H' : Hp} {e : En} {st : Sto} {σ : L2.St} {a : Addr} {d : D} {v : V}
/-- one more frozen address -/
def fzn (F : Zn) (a : Addr) : Zn := fun b => F b ∨ b = a
theorem ext_fzn : Ext F io H (fzn F a) io H := ⟨fun _ h => .inl h, fun _ _ _ _ r => r, fun _ _ r => r, fun _ _ _ _ _ r => r, [], by simp⟩
theorem HoR.rep {u : HO} (h : HoR K H F io u d) (f : F a) (e : H a = some u) : Rep K H F io (.ref a) d := by
  cases h with
  | lst r => exact .lst (.of f (.inl e)) r
  | dic r => exact .dic f (.inl e) r
  | obj c r => exact .obj f e c r
theorem Ob.rep (h : Ob K H F io a d) : Rep K H (fzn F a) io (.ref a) d := by
  obtain ⟨u, h, r⟩ := h
  exact (r.ext ext_fzn).rep (.inr rfl) h
theorem Cel.freeze (c : Cel K F io st H) (h : ∃ u, H a = some u) (n : a ∉ io) : Cel K (fzn F a) io st H :=
  ⟨fun b hb => hb.elim (c.dom b) fun e => e ▸ h, c.len, c.nd, fun b hb q => q.elim (c.nof b hb) fun e => n (e ▸ hb), fun m b d h1 h2 => (c.cell m b d h1 h2).ext ext_fzn rfl⟩
theorem SR.freeze (s : SR K z F io e st σ H) (h : ∃ u, H a = some u) (n : a ∉ io) (no : ∀ (i : Nat) (d' : D), e[i]? = some (.ow d') → σ[i]? ≠ some (some (.ref a))) (h0 : z.H0 a = none) : SR K z (fzn F a) io e st σ H :=
  ⟨s.cel.freeze h n, s.el, fun i d q => let ⟨v, h1, h2⟩ := s.fr i d q; ⟨v, h1, h2.ext ext_fzn⟩, fun i d q => by
    obtain ⟨b, h1, h2, h3, h4, h5⟩ := s.ow i d q
    exact ⟨b, h1, h2.ext ext_fzn rfl, fun z => z.elim h3 fun e => no i d q (e ▸ h1), h4, h5⟩, s.sep, s.frm, s.pre, fun b hb => hb.elim (s.fnw b) fun q => .inr (q ▸ h0), s.xc⟩
theorem PoE.frz {r : DB} {e' : En} {st' : Sto} (h : PoE K z F io H e' st' σ r v H') : PoF K z F io H e' st' σ r.1 v H' := by
  obtain ⟨F1, io1, x, s, r'⟩ := h
  unfold VR at r'
  split at r'
  · obtain ⟨a, rfl, ho, n1, n2, n3, n4⟩ := r'
    exact ⟨fzn F1 a, io1, x.trans ext_fzn, s.freeze ho.there n2 n4 n3, ho.rep⟩
  · exact ⟨F1, io1, x, s, r'⟩
theorem PoF.poE {e' : En} {st' : Sto} (h : PoF K z F io H e' st' σ d v H') : PoE K z F io H e' st' σ (d, false) v H' := h
/-- a slot whose own list is known from now on -/
theorem SR.fz1 (s : SR K z F io e st σ H) (i : Nat) : ∃ F', Ext F io H F' io H ∧ SR K z F' io (fz1 e i) st σ H := by
  unfold Pv.fz1
  split
  · rename_i d hd
    obtain ⟨a, h1, h2, h3, h4, h5⟩ := s.ow i d hd
    have hi : i < e.length := (List.getElem?_eq_some_iff.mp hd).1
    refine ⟨fzn F a, ext_fzn, ⟨s.cel.freeze h2.there h4, by simpa using s.el, fun j d' q => ?_, fun j d' q => ?_, fun j k d1 d2 b q1 q2 => ?_, s.frm, s.pre, fun b hb => hb.elim (s.fnw b) fun q => .inr (q ▸ h5), fun j x q => by
      by_cases hj : i = j
      · subst hj; rw [List.getElem?_set_self hi] at q; cases q
      · rw [List.getElem?_set_ne hj] at q; exact s.xc j x q⟩⟩
    · by_cases hj : i = j
      · subst hj
        rw [List.getElem?_set_self hi] at q
        cases q
        exact ⟨_, h1, h2.rep⟩
      · rw [List.getElem?_set_ne hj] at q
        obtain ⟨v, q1, q2⟩ := s.fr j d' q
        exact ⟨v, q1, q2.ext ext_fzn⟩
    · have hj : i ≠ j := fun z => by subst z; rw [List.getElem?_set_self hi] at q; cases q
      rw [List.getElem?_set_ne hj] at q
      obtain ⟨b, g1, g2, g3, g4, g5⟩ := s.ow j d' q
      refine ⟨b, g1, g2.ext ext_fzn rfl, fun z => z.elim g3 fun z => ?_, g4, g5⟩
      subst z
      exact hj (s.sep i j _ _ _ hd q h1 g1)
    · have hj : i ≠ j := fun z => by subst z; rw [List.getElem?_set_self hi] at q1; cases q1
      have hk : i ≠ k := fun z => by subst z; rw [List.getElem?_set_self hi] at q2; cases q2
      rw [List.getElem?_set_ne hj] at q1
      rw [List.getElem?_set_ne hk] at q2
      exact s.sep j k _ _ _ q1 q2
  · exact ⟨F, .refl .., s⟩
end
end Pv
namespace Pv
open PySem PySem.Spec PyProof.Rows L2

theorem sizeMax_eq : sizeMax = sizeLine := by rw [sizeLine_eq]; rfl
/-- a value with what it is: a value, or an object as it stands -/
def RO (K : PySem.W.Frag) (H : Hp) (F : Zn) (io : List Addr) (v : V) (d : D) : Prop := Rep K H F io v d ∨ ∃ a, v = .ref a ∧ Ob K H F io a d
def ROL (K : PySem.W.Frag) (H : Hp) (F : Zn) (io : List Addr) : List V → List D → Prop
  | [], [] => True
  | v :: vs, d :: ds => RO K H F io v d ∧ ROL K H F io vs ds
  | _, _ => False
/-- what an operation gives: a value that stands already, a new list, a new tuple -/
def NV (K : PySem.W.Frag) (H : Hp) (F : Zn) (io : List Addr) (r : DB) (v : V) (H' : Hp) : Prop :=
  (H' = H ∧ r.2 = false ∧ Rep K H F io v r.1) ∨
  (∃ p u d, H p = none ∧ v = .ref p ∧ H' = upd H p u ∧ HoR K H F io u d ∧ r = (d, true)) ∨
  (∃ p xs ds, H p = none ∧ v = .ref p ∧ H' = upd H p (.tup xs) ∧ RepL K H F io xs ds ∧ r = (.tup ds, false))
section
variable {K : PySem.W.Frag} {z : Zo} {F F' : Zn} {io io' : List Addr} {H H' : Hp} {e : En} {st : Sto} {σ : L2.St} {a : Addr} {d : D} {v : V}
theorem RO.int {i : Int} (h : RO K H F io v (.int i)) : v = .int i := by
  rcases h with h | ⟨a, _, _, _, q⟩
  · cases h; rfl
  · cases q
theorem RO.str {x : Str} (h : RO K H F io v (.str x)) : v = .str x := by
  rcases h with h | ⟨a, _, _, _, q⟩
  · cases h; rfl
  · cases q
theorem RO.bl {b : Bool} (h : RO K H F io v (.bool b)) : v = .bl b := by
  rcases h with h | ⟨a, _, _, _, q⟩
  · cases h; rfl
  · cases q
theorem RO.none (h : RO K H F io v .none) : v = .non := by
  rcases h with h | ⟨a, _, _, _, q⟩
  · cases h; rfl
  · cases q
theorem RO.lst {ds : List D} (h : RO K H F io v (.lst ds)) : ∃ a xs, v = .ref a ∧ SqL K H a xs ∧ RepL K H F io xs ds := by
  rcases h with h | ⟨a, rfl, u, h, q⟩
  · cases h with | lst s l => exact ⟨_, _, rfl, s.sq, l⟩
  · cases q with | lst r => exact ⟨a, _, rfl, .inl (.inl h), r⟩
theorem RO.dic {ds : List (D × D)} (h : RO K H F io v (.dic ds)) : ∃ a kvs, v = .ref a ∧ Rd H a (.dK kvs) ∧ RepK K H F io kvs ds := by
  rcases h with h | ⟨a, rfl, u, h, q⟩
  · cases h with | dic f s l => exact ⟨_, _, rfl, s, l⟩
  · cases q with | dic r => exact ⟨a, _, rfl, .inl h, r⟩
theorem RO.obj {c : Str} {gs : List (Str × D)} (h : RO K H F io v (.obj c gs)) : ∃ a C dx fs, v = .ref a ∧ H a = some (.ins C dx fs) ∧ ClsAt K c C ∧ RepF K H F io fs gs := by
  rcases h with h | ⟨a, rfl, u, h, q⟩
  · cases h with | obj f s k l => exact ⟨_, _, _, _, rfl, s, k, l⟩
  · cases q with | obj k r => exact ⟨a, _, _, _, rfl, h, k, r⟩
theorem RO.tup {ds : List D} (h : RO K H F io v (.tup ds)) : ∃ a xs, v = .ref a ∧ SqT K H a xs ∧ RepL K H F io xs ds := by
  rcases h with h | ⟨a, rfl, u, h, q⟩
  · cases h with | tup s l => exact ⟨_, _, rfl, s, l⟩
  · cases q
theorem NV.val {r : D} (h : Rep K H F io v r) : NV K H F io (r, false) v H := .inl ⟨rfl, rfl, h⟩
theorem NV.int (i : Int) : NV K H F io (.int i, false) (.int i) H := .val (.int i)
theorem NV.bl (i : Bool) : NV K H F io (.bool i, false) (.bl i) H := .val (.bl i)
theorem NV.str (i : Str) : NV K H F io (.str i, false) (.str i) H := .val (.str i)
theorem NV.lst {p : Addr} {xs : List V} {ds : List D} (h : H p = Option.none) (r : RepL K H F io xs ds) : NV K H F io (.lst ds, true) (.ref p) (upd H p (.lst xs)) := .inr (.inl ⟨p, _, _, h, rfl, rfl, .lst r, rfl⟩)
theorem NV.dic {p : Addr} {xs : List (L2.Key × V)} {ds : List (D × D)} (h : H p = Option.none) (r : RepK K H F io xs ds) : NV K H F io (.dic ds, true) (.ref p) (upd H p (.dK xs)) := .inr (.inl ⟨p, _, _, h, rfl, rfl, .dic r, rfl⟩)
theorem NV.tup {p : Addr} {xs : List V} {ds : List D} (h : H p = Option.none) (r : RepL K H F io xs ds) : NV K H F io (.tup ds, false) (.ref p) (upd H p (.tup xs)) := .inr (.inr ⟨p, xs, ds, h, rfl, rfl, r, rfl⟩)

/-- a new object at a free place -/
theorem ext_new {p : Addr} {o : HO} (h : H p = Option.none) (c : ∀ b, F b → ∃ u, H b = some u) : Ext F io H F io (upd H p o) := by
  have ne : ∀ b u, Rd H b u → b ≠ p := fun b u r e => by
    subst e
    rcases r with r | ⟨_, r⟩ <;> rw [h] at r <;> cases r
  have go : ∀ b u, Rd H b u → Rd (upd H p o) b u := fun b u r => by
    have n := ne b u r
    rcases r with r | ⟨q, r⟩
    · exact .inl (by rw [upd_ne n]; exact r)
    · exact .inr ⟨q, by rw [upd_ne n]; exact r⟩
  exact ⟨fun _ x => x, fun b u _ _ r => go b u r, fun b xs r => go b _ r, fun b C dx fs _ r => by rw [upd_ne (ne b _ (.inl r))]; exact r, [], by simp⟩
theorem SR.newObj {p : Addr} {o : HO} (s : SR K z F io e st σ H) (h : H p = Option.none) : SR K z F io e st σ (upd H p o) := by
  have x := ext_new (F := F) (io := io) (o := o) h s.cel.dom
  have ob : ∀ {b : Addr} {d : D}, Ob K H F io b d → Ob K (upd H p o) F io b d := fun {b d} k => k.ext x (upd_ne fun q => by
    obtain ⟨u, e⟩ := k.there
    rw [q, h] at e; cases e)
  refine ⟨⟨fun b hb => ?_, s.cel.len, s.cel.nd, s.cel.nof, fun n b d h1 h2 => ob (s.cel.cell n b d h1 h2)⟩, s.el, fun i d q => ?_, fun i d q => ?_, s.sep, fun b u q n => ?_, s.pre, s.fnw, s.xc⟩
  · obtain ⟨u, q⟩ := s.cel.dom b hb
    exact ⟨u, by rw [upd_ne (fun z => by rw [z, h] at q; cases q)]; exact q⟩
  · obtain ⟨v, h1, h2⟩ := s.fr i d q
    exact ⟨v, h1, h2.ext x⟩
  · obtain ⟨b, h1, h2, h3⟩ := s.ow i d q
    exact ⟨b, h1, ob h2, h3⟩
  · have := s.frm b u q n
    rw [upd_ne (fun z => by rw [z, h] at this; cases this)]
    exact this
theorem Cel.free (c : Cel K F io st H) {p : Addr} (h : H p = Option.none) : ¬ F p ∧ p ∉ io := by
  refine ⟨fun x => ?_, fun x => ?_⟩
  · obtain ⟨u, q⟩ := c.dom p x
    rw [h] at q; cases q
  · obtain ⟨n, hn, e⟩ := List.mem_iff_getElem.mp x
    have h1 : io[n]? = some p := by rw [List.getElem?_eq_getElem hn, e]
    have hn2 : n < st.length := by rw [← c.len]; exact hn
    have := c.cell n p st[n] h1 (List.getElem?_eq_getElem hn2)
    obtain ⟨u, q⟩ := this.there
    rw [h] at q; cases q
theorem SR.h0 (s : SR K z F io e st σ H) {p : Addr} (h : H p = Option.none) : z.H0 p = Option.none := by
  cases q : z.H0 p with
  | none => rfl
  | some u =>
    by_cases hp : p ∈ z.i0
    · obtain ⟨l, e, _⟩ := s.pre
      exact ((s.cel.free h).2 (by rw [e]; exact List.mem_append_left _ hp)).elim
    · have := s.frm p u q hp
      rw [h] at this; cases this
theorem NV.po {r : DB} (s : SR K z F io e st σ H) (h : NV K H F io r v H') : PoE K z F io H e st σ r v H' := by
  rcases h with ⟨rfl, h2, h3⟩ | ⟨p, u, d, hp, rfl, rfl, hr, rfl⟩ | ⟨p, xs, ds, hp, rfl, rfl, hr, rfl⟩
  · exact ⟨F, io, .refl .., s, by unfold VR; rw [h2]; exact h3⟩
  · have x := ext_new (F := F) (io := io) (o := u) hp s.cel.dom
    refine ⟨F, io, x, s.newObj hp, ?_⟩
    show OwR K z _ F io e σ (.ref p) d
    refine ⟨p, rfl, ⟨u, upd_same, hr.ext x⟩, (s.cel.free hp).1, (s.cel.free hp).2, s.h0 hp, fun i d' q1 q2 => ?_⟩
    obtain ⟨b, g1, g2, _⟩ := s.ow i d' q1
    rw [q2] at g1
    cases g1
    obtain ⟨u, q⟩ := g2.there
    rw [hp] at q; cases q
  · have x := ext_new (F := F) (io := io) (o := .tup xs) hp s.cel.dom
    exact ⟨F, io, x, s.newObj hp, .tup (.inl (.inl upd_same)) (hr.ext x)⟩
end

theorem fold_rep (its : List Nat) : ∀ (k : Nat) (acc : List Nat), List.foldl (fun x1 x2 => x1 ++ x2) acc.toArray (List.replicate k its.toArray) = (acc ++ (List.replicate k its).flatten).toArray
  | 0, acc => by simp
  | k + 1, acc => by
    have e : acc.toArray ++ its.toArray = (acc ++ its).toArray := by simp
    have e2 : (acc ++ its) ++ (List.replicate k its).flatten = acc ++ (List.replicate (k + 1) its).flatten := by
      rw [List.replicate_succ, List.flatten_cons, List.append_assoc]
    rw [List.replicate_succ, List.foldl_cons, e, fold_rep its k (acc ++ its), e2]
theorem strRep_fold (z : Str) (k : Nat) : (⟨(List.replicate k z.cps).foldl (· ++ ·) #[]⟩ : Str) = strRep z k := by
  have := fold_rep z.cps.toList k []
  unfold strRep
  congr 1
theorem strRep_one (z : Str) : strRep z 1 = z := by
  unfold strRep; simp
theorem strRep_nil {z : Str} (k : Nat) (h : z.length = 0) : strRep z k = z := by
  obtain ⟨a⟩ := z
  have : a = #[] := Array.eq_empty_of_size_eq_zero h
  subst this
  unfold strRep
  congr 1
  induction k with
  | zero => rfl
  | succ k ih => rw [List.replicate_succ, List.flatten_cons]; simpa using ih
theorem flat_len {l : List Nat} : ∀ k : Nat, ((List.replicate k l).flatten).length = k * l.length
  | 0 => by simp
  | k + 1 => by rw [List.replicate_succ, List.flatten_cons, List.length_append, flat_len k, Nat.succ_mul, Nat.add_comm]
theorem strRep_len (z : Str) (k : Nat) : (strRep z k).length = z.length * k := by
  show ((List.replicate k z.cps.toList).flatten.toArray).size = z.cps.size * k
  rw [List.size_toArray, flat_len, Array.length_toList, Nat.mul_comm]
/-! ## operators -/
section
variable {X : Cx}
/-- list + list -/
def rCatF (K : PySem.W.Frag) : R2 := fun x y H Q => ∃ l b xs zs, x = .ref l ∧ y = .ref b ∧ SqL K H l xs ∧ SqL K H b zs ∧ xs.length + zs.length ≤ sizeLine ∧ ∀ p, H p = none → Q (.ref p) (upd H p (.lst (xs ++ zs)))
theorem op_catF : OpR X (binaryOp .Add) (rCatF X.K) := by
  intro pins s σ H x y v u Q I rx ry h
  obtain ⟨l, b, xs, zs, rfl, rfl, hH, hB, hz, q⟩ := h
  cases rx
  cases ry
  obtain ⟨its, r, ⟨⟨c1, d1, dt1, sl1⟩, n, e, hc, hdd, hd⟩, z⟩ := I.list hH
  obtain ⟨its2, r2, ⟨⟨c2, d2, dt2, sl2⟩, n2, e2, hc2, hdd2, hd2⟩, z2⟩ := I.list hB
  simp only at hc hd hc2 hd2
  subst hc hd hc2 hd2
  have hl := r.length
  have hl2 := r2.length
  have ea : its.toArray ++ its2.toArray = (its ++ its2).toArray := by simp
  refine concat_meets ⟨_, e, rfl⟩ ⟨_, e2, rfl⟩ noFill_list_add seq_list_add PySem.F.slot_list_add PySem.F.entry_list_add (PySem.F.args_list_add_2 _ _) (list_addW l b its.toArray its2.toArray n n2 d1 d2 sl1 sl2 (by simp; omega)) ⟨e, e2, ?_⟩
  rw [ea]
  exact ⟨.ref _, _, I.lnew (t' := s.toks) (r.append r2) (by rw [List.length_append]; omega), rfl, q _ I.fresh⟩
theorem op_mul_str : OpR X (binaryOp .Mult) (fun x y H Q => ∃ i k, x = .str i ∧ y = .int k ∧ 0 ≤ k ∧ k < 4611686018427387904 ∧ i.length * k.toNat ≤ sizeLine ∧ Q (.str (strRep i k.toNat)) H) := by
  intro pins s σ H x y v u Q I rx ry h
  obtain ⟨i, k, rfl, rfl, h0, h1, hz, q⟩ := h
  obtain ⟨t, rfl⟩ := rx
  obtain ⟨t', rfl⟩ := ry
  have a1 : ¬ k < -(2 ^ 63 : Int) := by omega
  have a2 : ¬ k ≥ (2 ^ 63 : Int) := by omega
  refine PySem.P.mul_str (by rw [decide_eq_false a1, decide_eq_false a2]; rfl) (fun h2 h3 => ?_) (fun h2 h3 => ?_) ?_
  · have hk : 0 < k := by omega
    have hb : (i.length : Int) * k ≤ 16777216 := by
      have : ((i.length * k.toNat : Nat) : Int) ≤ 16777216 := by
        rw [sizeLine_eq] at hz; exact Int.ofNat_le.mpr hz
      rwa [Int.natCast_mul, Int.toNat_of_nonneg h0] at this
    have : (i.length : Int) ≤ (2 ^ 63 - 1) / k := (Int.le_ediv_iff_mul_le hk).mpr (by omega)
    omega
  · unfold Builtin.Str.tooLong
    exact decide_eq_false (by omega)
  · split
    · rename_i h2
      have : k = 0 := by omega
      subst this
      have e : strRep i (0 : Int).toNat = Str.empty := rfl
      rw [e] at q
      exact ⟨by decide, ⟨.str Str.empty, H, I.tok _, ⟨_, rfl⟩, q⟩⟩
    · split
      · rename_i h2 h3
        have e : strRep i k.toNat = i := by
          rw [Bool.or_eq_true] at h3
          rcases h3 with h3 | h3
          · have : k = 1 := eq_of_beq h3
            subst this; exact strRep_one i
          · exact strRep_nil _ (eq_of_beq h3)
        rw [e] at q
        exact ⟨.str i, H, I, ⟨_, rfl⟩, q⟩
      · rw [strRep_fold]
        exact ⟨by rw [strRep_len]; exact hz, ⟨.str _, H, I.tok _, ⟨_, rfl⟩, q⟩⟩
theorem OpR.imp {f : Value → Value → Sem Value} {r r' : R2} (h : OpR X f r) (i : ∀ x y H Q, r' x y H Q → r x y H Q) : OpR X f r' := fun pins s σ H x y v u Q I rx ry q => h pins s σ H x y v u Q I rx ry (i _ _ _ _ q)
/-- what an operator is asked -/
def rBin (K : PySem.W.Frag) (op : Operator) : R2 := fun x y H Q => ∃ F io dx dy r, RO K H F io x dx ∧ RO K H F io y dy ∧ binD op dx dy = some r ∧ ∀ v H', NV K H F io r v H' → Q v H'
theorem CMul.lit {i j : Int} (h : (-litI < i ∧ i < litI) ∨ (-litI < j ∧ j < litI)) : CMul i j := by
  unfold litI at h; exact h
theorem op_bin (op : Operator) : OpR X (binaryOp op) (rBin X.K op) := by
  have key : ∀ {g : R2}, OpR X (binaryOp op) g → (∀ x y H Q, rBin X.K op x y H Q → g x y H Q) → OpR X (binaryOp op) (rBin X.K op) := fun h i => OpR.imp h i
  cases op with
  | Add =>
    refine key (((op_add (X := X)).or op_add_str).or (op_catF.or op_catA)) ?_
    rintro x y H Q ⟨F, io, dx, dy, r, hx, hy, e, q⟩
    cases dx <;> cases dy <;> simp only [binD, nul] at e <;> try contradiction
    · cases e
      exact .inl (.inl ⟨_, _, hx.int, hy.int, q _ _ (.int _)⟩)
    · split at e
      · rename_i hl; cases e
        exact .inl (.inr ⟨_, _, hx.str, hy.str, by rw [← sizeMax_eq]; exact hl, q _ _ (.str _)⟩)
      · contradiction
    · split at e
      · rename_i hl; cases e
        obtain ⟨a, xs, rfl, ha, ra⟩ := hx.tup
        obtain ⟨b, ys, rfl, hb, rb⟩ := hy.tup
        refine .inr (.inr ⟨a, b, xs, ys, rfl, rfl, ha, hb, by rw [← sizeMax_eq, ra.length, rb.length]; exact hl, fun h0 => ?_, fun h1 h0 => ?_, fun h1 h2 p hp => ?_⟩)
        · subst h0; cases ra
          exact q _ _ (.val (.tup hb rb))
        · subst h0; cases rb
          rw [List.append_nil] at q
          exact q _ _ (.val (.tup ha ra))
        · exact q _ _ (.tup hp (ra.append rb))
      · contradiction
    · split at e
      · rename_i hl; cases e
        obtain ⟨a, xs, rfl, ha, ra⟩ := hx.lst
        obtain ⟨b, ys, rfl, hb, rb⟩ := hy.lst
        exact .inr (.inl ⟨a, b, xs, ys, rfl, rfl, ha, hb, by rw [← sizeMax_eq, ra.length, rb.length]; exact hl, fun p hp => q _ _ (.lst hp (ra.append rb))⟩)
      · contradiction
  | Sub =>
    refine key op_sub ?_
    rintro x y H Q ⟨F, io, dx, dy, r, hx, hy, e, q⟩
    cases dx <;> cases dy <;> simp only [binD, nul] at e <;> try contradiction
    cases e; exact ⟨_, _, hx.int, hy.int, q _ _ (.int _)⟩
  | Mult =>
    refine key ((op_mul.or op_mul_str).or op_repT) ?_
    rintro x y H Q ⟨F, io, dx, dy, r, hx, hy, e, q⟩
    cases dx <;> cases dy <;> simp only [binD, nul] at e <;> try contradiction
    · split at e
      · rename_i hl; cases e; exact .inl (.inl ⟨_, _, hx.int, hy.int, CMul.lit hl, q _ _ (.int _)⟩)
      · contradiction
    · split at e
      · rename_i hl; cases e; exact .inl (.inr ⟨_, _, hx.str, hy.int, hl.1, hl.2.1, by rw [← sizeMax_eq]; exact hl.2.2, q _ _ (.str _)⟩)
      · contradiction
    · split at e
      · rename_i hl; cases e
        obtain ⟨a, xs, rfl, ha, ra⟩ := hx.tup
        have h0 := hl.1
        refine .inr ⟨a, _, xs, rfl, hy.int, ha, fun e => ?_, hl.2.1, hl.2.2.1, by rw [ra.length]; exact hl.2.2.2, fun p hp => q _ _ (.tup hp (ra.reps _))⟩
        subst e; cases ra; simp at h0
      · contradiction
  | FloorDiv =>
    refine key op_fdivW ?_
    rintro x y H Q ⟨F, io, dx, dy, r, hx, hy, e, q⟩
    cases dx <;> cases dy <;> simp only [binD, nul] at e <;> try contradiction
    split at e
    · rename_i hl; cases e
      refine ⟨_, _, hx.int, hy.int, wide_div (b := 100) hl.1 ?_ (by decide) (by decide), q _ _ (.int _)⟩
      have : (2 : Nat) ^ 100 = 1267650600228229401496703205376 := by decide
      rw [this]
      have h2 := hl.2
      unfold wideI at h2
      have h1 := hl.1
      omega
    · contradiction
  | Mod =>
    refine key op_mod ?_
    rintro x y H Q ⟨F, io, dx, dy, r, hx, hy, e, q⟩
    cases dx <;> cases dy <;> simp only [binD, nul] at e <;> try contradiction
    split at e
    · rename_i hl; cases e; exact ⟨_, _, hx.int, hy.int, hl, q _ _ (.int _)⟩
    · contradiction
  | BitAnd =>
    refine key op_and ?_
    rintro x y H Q ⟨F, io, dx, dy, r, hx, hy, e, q⟩
    cases dx <;> cases dy <;> simp only [binD, nul] at e <;> try contradiction
    cases e; exact ⟨_, _, hx.int, hy.int, q _ _ (.int _)⟩
  | BitOr =>
    refine key op_or ?_
    rintro x y H Q ⟨F, io, dx, dy, r, hx, hy, e, q⟩
    cases dx <;> cases dy <;> simp only [binD, nul] at e <;> try contradiction
    cases e; exact ⟨_, _, hx.int, hy.int, q _ _ (.int _)⟩
  | BitXor =>
    refine key op_xor ?_
    rintro x y H Q ⟨F, io, dx, dy, r, hx, hy, e, q⟩
    cases dx <;> cases dy <;> simp only [binD, nul] at e <;> try contradiction
    cases e; exact ⟨_, _, hx.int, hy.int, q _ _ (.int _)⟩
  | LShift =>
    refine key op_shl ?_
    rintro x y H Q ⟨F, io, dx, dy, r, hx, hy, e, q⟩
    cases dx <;> cases dy <;> simp only [binD, nul] at e <;> try contradiction
    split at e
    · rename_i hl; cases e
      refine ⟨_, _, hx.int, hy.int, ⟨hl.1.1, hl.1.2, ?_⟩, q _ _ (.int _)⟩
      have h := hl.2
      unfold litI at h
      have : (2 : Nat) ^ 64 = 18446744073709551616 := by decide
      omega
    · contradiction
  | RShift =>
    refine key op_shr ?_
    rintro x y H Q ⟨F, io, dx, dy, r, hx, hy, e, q⟩
    cases dx <;> cases dy <;> simp only [binD, nul] at e <;> try contradiction
    split at e
    · rename_i hl; cases e; exact ⟨_, _, hx.int, hy.int, hl, q _ _ (.int _)⟩
    · contradiction
  | _ =>
    intro pins s σ H x y v u Q I rx ry h
    obtain ⟨F, io, dx, dy, r, hx, hy, e, q⟩ := h
    cases dx <;> cases dy <;> simp [binD] at e
end
end Pv
namespace Pv
open PySem PySem.Spec PyProof.Rows L2

/-! ## == -/
mutual
def D.py : D → PyData
  | .none => .none
  | .bool b => .bool b
  | .int i => .int i
  | .str x => .str x
  | .tup xs => .tuple (pyL xs)
  | .lst xs => .list (pyL xs)
  | _ => .none
def pyL : List D → List PyData
  | [] => []
  | x :: xs => x.py :: pyL xs
end
theorem pyL_map : ∀ xs : List D, pyL xs = xs.map D.py
  | [] => rfl
  | x :: xs => by simp [pyL, pyL_map xs]
mutual
theorem fine_lay : ∀ {d : D} {k : Nat}, d.fine k = true → d.py.canLay0 = true ∧ d.py.depth ≤ k
  | .none, _, _ => ⟨rfl, Nat.zero_le _⟩
  | .bool _, _, _ => ⟨rfl, Nat.zero_le _⟩
  | .int _, _, _ => ⟨rfl, Nat.zero_le _⟩
  | .str x, k, h => ⟨by cases k <;> exact h, Nat.zero_le _⟩
  | .tup xs, 0, h => by simp [D.fine] at h
  | .tup xs, k + 1, h => by
    have := fineL_lay (ds := xs) (k := k) (by simpa [D.fine] using h)
    exact ⟨this.1, Nat.succ_le_succ this.2⟩
  | .lst xs, 0, h => by simp [D.fine] at h
  | .lst xs, k + 1, h => by
    have := fineL_lay (ds := xs) (k := k) (by simpa [D.fine] using h)
    exact ⟨this.1, Nat.succ_le_succ this.2⟩
  | .dic _, k, h => by cases k <;> simp [D.fine] at h
  | .loc _, k, h => by cases k <;> simp [D.fine] at h
  | .ty _, k, h => by cases k <;> simp [D.fine] at h
  | .obj _ _, k, h => by cases k <;> simp [D.fine] at h
theorem fineL_lay : ∀ {ds : List D} {k : Nat}, fineL k ds = true → PyData.canLayAll0 (pyL ds) = true ∧ PyData.depthAll (pyL ds) ≤ k
  | [], _, _ => ⟨rfl, Nat.zero_le _⟩
  | d :: ds, k, h => by
    simp only [fineL, Bool.and_eq_true] at h
    have h1 := fine_lay h.1
    have h2 := fineL_lay h.2
    refine ⟨?_, ?_⟩
    · show (d.py.canLay0 && PyData.canLayAll0 (pyL ds)) = true
      rw [h1.1, h2.1]; rfl
    · show max d.py.depth (PyData.depthAll (pyL ds)) ≤ k
      exact Nat.max_le.mpr ⟨h1.2, h2.2⟩
end
theorem fine_shaped {d : D} (h : d.fine 64 = true) : SeqAt.shaped d.py = true := by
  obtain ⟨a, b⟩ := fine_lay h
  unfold SeqAt.shaped
  rw [a, decide_eq_true b]; rfl
mutual
theorem eqv_py : ∀ {d e : D} {j k : Nat}, d.fine j = true → e.fine k = true → PyData.eqv d.py e.py = d.eqv e
  | .none, e, j, k, _, h => by cases e <;> first | rfl | (cases k <;> simp [D.fine] at h)
  | .bool b, e, j, k, _, h => by cases e <;> first | rfl | (cases k <;> simp [D.fine] at h)
  | .int i, e, j, k, _, h => by
    cases e with
    | int i' => show (i == i') = decide (i = i'); rw [Bool.beq_eq_decide_eq]
    | _ => first | rfl | (cases k <;> simp [D.fine] at h)
  | .str x, e, j, k, _, h => by
    cases e with
    | str y => show (x == y) = decide (x = y); rw [Bool.beq_eq_decide_eq]
    | _ => first | rfl | (cases k <;> simp [D.fine] at h)
  | .tup xs, e, 0, k, h', h => by simp [D.fine] at h'
  | .tup xs, e, j + 1, 0, h', h => by
    cases e with
    | tup ys => simp [D.fine] at h
    | lst ys => simp [D.fine] at h
    | _ => first | rfl | simp [D.fine] at h
  | .tup xs, e, j + 1, k + 1, h', h => by
    cases e with
    | tup ys => exact eqvL_py (j := j) (k := k) (by simpa [D.fine] using h') (by simpa [D.fine] using h)
    | _ => first | rfl | simp [D.fine] at h
  | .lst xs, e, 0, k, h', h => by simp [D.fine] at h'
  | .lst xs, e, j + 1, 0, h', h => by
    cases e with
    | tup ys => simp [D.fine] at h
    | lst ys => simp [D.fine] at h
    | _ => first | rfl | simp [D.fine] at h
  | .lst xs, e, j + 1, k + 1, h', h => by
    cases e with
    | lst ys => exact eqvL_py (j := j) (k := k) (by simpa [D.fine] using h') (by simpa [D.fine] using h)
    | _ => first | rfl | simp [D.fine] at h
  | .dic _, _, j, _, h, _ => by cases j <;> simp [D.fine] at h
  | .loc _, _, j, _, h, _ => by cases j <;> simp [D.fine] at h
  | .ty _, _, j, _, h, _ => by cases j <;> simp [D.fine] at h
  | .obj _ _, _, j, _, h, _ => by cases j <;> simp [D.fine] at h
theorem eqvL_py : ∀ {ds es : List D} {j k : Nat}, fineL j ds = true → fineL k es = true → PyData.eqvAll (pyL ds) (pyL es) = eqvL ds es
  | [], [], _, _, _, _ => rfl
  | [], _ :: _, _, _, _, _ => rfl
  | _ :: _, [], _, _, _, _ => rfl
  | d :: ds, e :: es, j, k, h, h' => by
    simp only [fineL, Bool.and_eq_true] at h h'
    show (PyData.eqv d.py e.py && PyData.eqvAll (pyL ds) (pyL es)) = (d.eqv e && eqvL ds es)
    rw [eqv_py h.1 h'.1, eqvL_py h.2 h'.2]
end
section
variable {K : PySem.W.Frag} {F : Zn} {io : List Addr} {H : Hp}
mutual
theorem Rep.dp : ∀ {d : D} {k : Nat} {v : V}, d.fine k = true → Rep K H F io v d → Dp K H v d.py
  | .none, _, _, _, h => by cases h; exact .non
  | .bool _, _, _, _, h => by cases h; exact .bl _
  | .int _, _, _, _, h => by cases h; exact .int _
  | .str _, _, _, _, h => by cases h; exact .str _
  | .ty _, k, _, f, h => by cases k <;> simp [D.fine] at f
  | .tup ds, 0, _, f, h => by simp [D.fine] at f
  | .tup ds, k + 1, _, f, h => by
    cases h with
    | tup s l => exact .tup s (RepL.dp (k := k) (by simpa [D.fine] using f) l)
  | .lst ds, 0, _, f, h => by simp [D.fine] at f
  | .lst ds, k + 1, _, f, h => by
    cases h with
    | lst s l => exact .lst s.sq (RepL.dp (k := k) (by simpa [D.fine] using f) l)
  | .dic _, k, _, f, h => by cases k <;> simp [D.fine] at f
  | .loc n, k, _, f, h => by cases k <;> simp [D.fine] at f
  | .obj _ _, k, _, f, h => by cases k <;> simp [D.fine] at f
theorem RepL.dp : ∀ {ds : List D} {k : Nat} {vs : List V}, fineL k ds = true → RepL K H F io vs ds → DpAll K H vs (pyL ds)
  | [], _, _, _, h => by cases h; exact .nil
  | d :: ds, _, _, f, h => by
    cases h with
    | cons a b =>
      simp only [fineL, Bool.and_eq_true] at f
      exact .cons (Rep.dp f.1 a) (RepL.dp f.2 b)
end
theorem RO.dp {d : D} {v : V} (f : d.fine 64 = true) (h : RO K H F io v d) : Dp K H v d.py := by
  rcases h with h | ⟨a, rfl, u, h, q⟩
  · exact h.dp f
  · cases q with
    | lst r => exact .lst (.inl (.inl h)) (RepL.dp (k := 63) (by simpa [D.fine] using f) r)
    | dic r => simp [D.fine] at f
    | obj c r => simp [D.fine] at f
theorem RO.non_iff {d : D} {v : V} (h : RO K H F io v d) : decide (v = .non) = d.isN := by
  rcases h with h | ⟨a, rfl, u, h, q⟩
  · cases h <;> simp [D.isN]
  · cases q <;> simp [D.isN]
/-- keys of dicts -/
def D.toKey : D → L2.Key
  | .int i => .inl i
  | .str x => .inr x
  | _ => .inl 0
theorem key_is {d : D} (h : d.key = true) : d = keyD d.toKey := by
  cases d <;> first | rfl | cases h
theorem RO.key {d : D} {v : V} (h : RO K H F io v d) (k : d.key = true) : v = kV d.toKey := by
  cases d <;> first | (exact h.int) | (exact h.str) | cases k
theorem sameK_iff {a b : L2.Key} : sameK (keyD a) (keyD b) = decide (a = b) := by
  cases a <;> cases b <;> simp [sameK, keyD]
theorem RepK.look {k : L2.Key} : ∀ {kvs : List (L2.Key × V)} {ds : List (D × D)}, RepK K H F io kvs ds →
    (lookK ds (keyD k) = none ∧ valV kvs k = none) ∨ ∃ d v, lookK ds (keyD k) = some d ∧ valV kvs k = some v ∧ Rep K H F io v d
  | [], _, h => by cases h; exact .inl ⟨rfl, rfl⟩
  | (k', v) :: r, _, h => by
    cases h with
    | @cons _ _ _ c d ds e a b =>
      subst e
      by_cases hk : k' = k
      · subst hk
        refine .inr ⟨d, v, ?_, valV_pos rfl, a⟩
        simp [lookK, sameK_iff]
      · rcases RepK.look (k := k) b with ⟨h1, h2⟩ | ⟨d', v', h1, h2, h3⟩
        · exact .inl ⟨by simp [lookK, sameK_iff, hk, h1], by rw [valV_neg hk]; exact h2⟩
        · exact .inr ⟨d', v', by simp [lookK, sameK_iff, hk, h1], by rw [valV_neg hk]; exact h2, h3⟩
theorem RepK.isSome {k : L2.Key} {kvs : List (L2.Key × V)} {ds : List (D × D)} (h : RepK K H F io kvs ds) : (valV kvs k).isSome = (lookK ds (keyD k)).isSome := by
  rcases h.look (k := k) with ⟨h1, h2⟩ | ⟨d, v, h1, h2, _⟩ <;> simp [h1, h2]
theorem RepK.length {kvs : List (L2.Key × V)} {ds : List (D × D)} (h : RepK K H F io kvs ds) : kvs.length = ds.length := by
  induction ds generalizing kvs with
  | nil => cases h; rfl
  | cons d ds ih => cases h with | cons e a b => simp [ih b]
theorem RepK.snoc {k : L2.Key} {v : V} {d : D} {kvs : List (L2.Key × V)} {ds : List (D × D)} (h : RepK K H F io kvs ds) (h' : Rep K H F io v d) : RepK K H F io (kvs ++ [(k, v)]) (ds ++ [(keyD k, d)]) := by
  induction ds generalizing kvs with
  | nil => cases h; exact .cons rfl h' .nil
  | cons d ds ih => cases h with | cons e a b => exact .cons e a (ih b)
theorem RepK.mapK {k : L2.Key} {v : V} {d : D} (h' : Rep K H F io v d) : ∀ {kvs : List (L2.Key × V)} {ds : List (D × D)}, RepK K H F io kvs ds →
    RepK K H F io (kvs.map fun kv => if kv.1 = k then (kv.1, v) else kv) (ds.map fun p => if sameK p.1 (keyD k) = true then (p.1, d) else p)
  | [], _, h => by cases h; exact .nil
  | (k', v') :: r, _, h => by
    cases h with
    | @cons _ _ _ c d1 ds e a b =>
      subst e
      simp only [List.map_cons, sameK_iff, decide_eq_true_eq]
      by_cases hk : k' = k
      · rw [if_pos hk, if_pos hk]; exact .cons rfl h' (RepK.mapK h' b)
      · rw [if_neg hk, if_neg hk]; exact .cons rfl a (RepK.mapK h' b)
theorem RepK.put {k : L2.Key} {v : V} {d : D} {kvs : List (L2.Key × V)} {ds : List (D × D)} (h : RepK K H F io kvs ds) (h' : Rep K H F io v d) : RepK K H F io (putK kvs k v) (putKD ds (keyD k) d) := by
  unfold putK putKD
  rw [valV_any, h.isSome]
  split
  · exact h.mapK h'
  · exact h.snoc h'
theorem RepK.drop {k : L2.Key} {kvs : List (L2.Key × V)} {ds : List (D × D)} (h : RepK K H F io kvs ds) : RepK K H F io (dropK kvs k) (dropKD ds (keyD k)) := by
  unfold dropK dropKD
  induction ds generalizing kvs with
  | nil => cases h; exact .nil
  | cons d0 ds ih =>
    cases h with
    | @cons k' v' kvs' c d1 _ e a b =>
      subst e
      by_cases hk : k' = k
      · simp only [List.filter_cons, sameK_iff, hk, ne_eq, not_true_eq_false, decide_false, decide_true, Bool.not_true, Bool.false_eq_true, if_false]
        exact ih b
      · simp only [List.filter_cons, sameK_iff, hk, ne_eq, not_false_eq_true, decide_false, decide_true, Bool.not_false, if_true]
        exact .cons rfl a (ih b)
theorem RepK.keys {kvs : List (L2.Key × V)} {ds : List (D × D)} (h : RepK K H F io kvs ds) : RepL K H F io (kvs.map fun kv => kV kv.1) (ds.map (·.1)) := by
  induction ds generalizing kvs with
  | nil => cases h; exact .nil
  | cons d0 ds ih =>
    cases h with
    | @cons k' v' kvs' c d1 _ e a b =>
      subst e
      refine .cons ?_ (ih b)
      cases k' with
      | inl i => exact .int i
      | inr x => exact .str x
end
section
variable {X : Cx}
/-- x in a list or tuple of data -/
def rInT (K : PySem.W.Frag) (neg : Bool) : R2 := fun x y H Q => ∃ d ds, Dp K H x d ∧ (Dp K H y (.list ds) ∨ Dp K H y (.tuple ds)) ∧ SeqAt.shaped d = true ∧ PyData.canLayAll0 ds = true ∧ Q (.bl (if neg then !ds.any fun z => PyData.eqv z d else ds.any fun z => PyData.eqv z d)) H
theorem room_in {A : Around} {d : PyData} {n : Nat} (sd : SeqAt.shaped d = true) (hu : A.units + 65 < cLine) : A.units + 1 + min n d.depth < cLine := by
  have h1 := SeqAt.depth_of_shaped sd
  have h2 : min n d.depth ≤ d.depth := Nat.min_le_right _ _
  omega
theorem op_inT (hu : X.A.units + 65 < cLine) : OpR X (compareOp .In) (rInT X.K false) := by
  intro pins s σ H x y v u Q I rx ry h
  obtain ⟨d, ds, hd, he, sd, se, q⟩ := h
  obtain ⟨as, r1⟩ := Dp.reads I d x v hd rx
  rcases he with he | he
  · obtain ⟨bs, r2⟩ := Dp.reads I (.list ds) y u he ry
    exact SeqAt.in_list_reads r2 r1 se (SeqAt.canLay_of_shaped sd) (room_in sd hu) ⟨.bl _, H, I, rfl, q⟩
  · obtain ⟨bs, r2⟩ := Dp.reads I (.tuple ds) y u he ry
    exact SeqAt.in_tuple_reads r2 r1 se (SeqAt.canLay_of_shaped sd) (room_in sd hu) ⟨.bl _, H, I, rfl, q⟩
theorem op_notInT (hu : X.A.units + 65 < cLine) : OpR X (compareOp .NotIn) (rInT X.K true) := by
  intro pins s σ H x y v u Q I rx ry h
  obtain ⟨d, ds, hd, he, sd, se, q⟩ := h
  obtain ⟨as, r1⟩ := Dp.reads I d x v hd rx
  rcases he with he | he
  · obtain ⟨bs, r2⟩ := Dp.reads I (.list ds) y u he ry
    exact SeqAt.notIn_list_reads r2 r1 se (SeqAt.canLay_of_shaped sd) (room_in sd hu) ⟨.bl _, H, I, rfl, q⟩
  · obtain ⟨bs, r2⟩ := Dp.reads I (.tuple ds) y u he ry
    exact SeqAt.notIn_tuple_reads r2 r1 se (SeqAt.canLay_of_shaped sd) (room_in sd hu) ⟨.bl _, H, I, rfl, q⟩
def rCmp (K : PySem.W.Frag) (op : CmpOp) : R2 := fun x y H Q => ∃ F io dx dy b, RO K H F io x dx ∧ RO K H F io y dy ∧ cmpD op dx dy = some b ∧ Q (.bl b) H
theorem any_py {x : D} {xs : List D} {j k : Nat} (hx : x.fine j = true) : fineL k xs = true → ((pyL xs).any fun z => PyData.eqv z x.py) = xs.any fun y => y.eqv x := by
  induction xs with
  | nil => intro _; rfl
  | cons y ys ih =>
    intro h
    simp only [fineL, Bool.and_eq_true] at h
    simp only [pyL, List.any_cons]
    rw [eqv_py h.1 hx, ih h.2]
theorem op_inDic (hu : X.A.units + 1 < cLine) : OpR X (compareOp .In) (fun x y H Q => ∃ a o, y = .ref a ∧ DGet H a x o ∧ Q (.bl o.isSome) H) := by
  intro pins s σ H x y v u Q I rx ry ⟨a, o, e, g, q⟩
  subst e
  cases ry
  exact d_in hu I g rx fun s' I' => ⟨.bl _, H, I', rfl, q⟩
theorem op_notInDic (hu : X.A.units + 1 < cLine) : OpR X (compareOp .NotIn) (fun x y H Q => ∃ a o, y = .ref a ∧ DGet H a x o ∧ Q (.bl (!o.isSome)) H) := by
  intro pins s σ H x y v u Q I rx ry ⟨a, o, e, g, q⟩
  subst e
  cases ry
  exact d_notIn hu I g rx fun s' I' => ⟨.bl _, H, I', rfl, q⟩
/-- what `in` gives, by the kinds -/
theorem in_cases {K : PySem.W.Frag} {H : Hp} {F : Zn} {io : List Addr} {x y : V} {dx dy : D} {b : Bool} (hx : RO K H F io x dx) (hy : RO K H F io y dy) (e : inD dx dy = some b) :
    (∃ d ds, Dp K H x d ∧ (Dp K H y (.list ds) ∨ Dp K H y (.tuple ds)) ∧ SeqAt.shaped d = true ∧ PyData.canLayAll0 ds = true ∧ (ds.any fun z => PyData.eqv z d) = b) ∨
    (∃ a o, y = .ref a ∧ DGet H a x o ∧ o.isSome = b) ∨ (∃ i j, x = .str i ∧ y = .str j ∧ (!(Builtin.Str.occurrences j i 0 j.length 1).isEmpty) = b) := by
  cases dy <;> simp only [inD] at e <;> try contradiction
  · split at e <;> try contradiction
    cases e
    exact .inr (.inr ⟨_, _, hx.str, hy.str, rfl⟩)
  · rename_i xs
    unfold memD at e
    split at e
    · rename_i hf
      simp only [Bool.and_eq_true] at hf
      cases e
      obtain ⟨a, vs, rfl, ha, ra⟩ := hy.tup
      exact .inl ⟨dx.py, pyL xs, hx.dp hf.1, .inr (.tup ha (RepL.dp hf.2 ra)), fine_shaped hf.1, (fineL_lay hf.2).1, any_py hf.1 hf.2⟩
    · contradiction
  · rename_i xs
    unfold memD at e
    split at e
    · rename_i hf
      simp only [Bool.and_eq_true] at hf
      cases e
      obtain ⟨a, vs, rfl, ha, ra⟩ := hy.lst
      exact .inl ⟨dx.py, pyL xs, hx.dp hf.1, .inl (.lst ha (RepL.dp hf.2 ra)), fine_shaped hf.1, (fineL_lay hf.2).1, any_py hf.1 hf.2⟩
    · contradiction
  · split at e <;> try contradiction
    rename_i hk
    cases e
    obtain ⟨a, kvs, rfl, ha, ra⟩ := hy.dic
    refine .inr (.inl ⟨a, valV kvs dx.toKey, rfl, .inl ⟨kvs, dx.toKey, ha, hx.key hk, rfl⟩, ?_⟩)
    rw [ra.isSome, ← key_is hk]
theorem op_isOff : OpR X (compareOp .Is) (fun x y H Q => ∃ b, y = .bl b ∧ (∀ c, x ≠ .bl c) ∧ Q (.bl false) H) := by
  intro pins s σ H x y v u Q I rx ry h
  obtain ⟨b, rfl, hx, q⟩ := h
  cases (show u = Value.bool b from ry)
  have hp : plainIs v (.bool b) = true ∧ v ≠ .bool b := by
    cases x with
    | bl c => exact absurd rfl (hx c)
    | ref a => cases rx; exact ⟨rfl, fun e => by cases e⟩
    | non => cases rx; exact ⟨rfl, fun e => by cases e⟩
    | ty n => cases rx; exact ⟨rfl, fun e => by cases e⟩
    | int i => obtain ⟨t, rfl⟩ := rx; exact ⟨rfl, fun e => by cases e⟩
    | str i => obtain ⟨t, rfl⟩ := rx; exact ⟨rfl, fun e => by cases e⟩
    | byt i => obtain ⟨t, rfl⟩ := rx; exact ⟨rfl, fun e => by cases e⟩
    | flt i => obtain ⟨t, rfl⟩ := rx; exact ⟨rfl, fun e => by cases e⟩
  exact wpAny_is_other hp.1 hp.2 ⟨.bl false, H, I, rfl, q⟩
theorem op_notOff : OpR X (compareOp .IsNot) (fun x y H Q => ∃ b, y = .bl b ∧ (∀ c, x ≠ .bl c) ∧ Q (.bl true) H) := by
  intro pins s σ H x y v u Q I rx ry h
  obtain ⟨b, rfl, hx, q⟩ := h
  cases (show u = Value.bool b from ry)
  have hp : plainIs v (.bool b) = true ∧ v ≠ .bool b := by
    cases x with
    | bl c => exact absurd rfl (hx c)
    | ref a => cases rx; exact ⟨rfl, fun e => by cases e⟩
    | non => cases rx; exact ⟨rfl, fun e => by cases e⟩
    | ty n => cases rx; exact ⟨rfl, fun e => by cases e⟩
    | int i => obtain ⟨t, rfl⟩ := rx; exact ⟨rfl, fun e => by cases e⟩
    | str i => obtain ⟨t, rfl⟩ := rx; exact ⟨rfl, fun e => by cases e⟩
    | byt i => obtain ⟨t, rfl⟩ := rx; exact ⟨rfl, fun e => by cases e⟩
    | flt i => obtain ⟨t, rfl⟩ := rx; exact ⟨rfl, fun e => by cases e⟩
  exact wpAny_isNot_other hp.1 hp.2 ⟨.bl true, H, I, rfl, q⟩
theorem RO.notBl {K : PySem.W.Frag} {H : Hp} {F : Zn} {io : List Addr} {d : D} {v : V} (h : RO K H F io v d) (n : ∀ b, d ≠ .bool b) : ∀ c, v ≠ .bl c := by
  rintro c rfl
  rcases h with h | ⟨a, e, _⟩
  · cases h; exact n _ rfl
  · cases e
theorem op_cmp (hu : X.A.units + 65 < cLine) (op : CmpOp) : OpR X (compareOp op) (rCmp X.K op) := by
  have hu' : X.A.units + 64 < cLine := by omega
  have key : ∀ {g : R2}, OpR X (compareOp op) g → (∀ x y H Q, rCmp X.K op x y H Q → g x y H Q) → OpR X (compareOp op) (rCmp X.K op) := fun h i => OpR.imp h i
  cases op with
  | Eq =>
    refine key (op_eqD hu') ?_
    rintro x y H Q ⟨F, io, dx, dy, b, hx, hy, e, q⟩
    simp only [cmpD, eqD] at e
    split at e
    · rename_i hf
      simp only [Bool.and_eq_true] at hf
      cases e
      exact ⟨_, _, hx.dp hf.1, hy.dp hf.2, fine_shaped hf.1, fine_shaped hf.2, by rw [eqv_py hf.1 hf.2]; exact q⟩
    · contradiction
  | NotEq =>
    refine key (op_neD hu') ?_
    rintro x y H Q ⟨F, io, dx, dy, b, hx, hy, e, q⟩
    simp only [cmpD, eqD] at e
    split at e
    · rename_i hf
      simp only [Bool.and_eq_true] at hf
      cases e
      exact ⟨_, _, hx.dp hf.1, hy.dp hf.2, fine_shaped hf.1, fine_shaped hf.2, by rw [eqv_py hf.1 hf.2]; exact q⟩
    · contradiction
  | Lt =>
    refine key (op_lt.or op_lt_str) ?_
    rintro x y H Q ⟨F, io, dx, dy, b, hx, hy, e, q⟩
    cases dx <;> cases dy <;> simp only [cmpD] at e <;> try contradiction
    · cases e; exact .inl ⟨_, _, hx.int, hy.int, q⟩
    · cases e; exact .inr ⟨_, _, hx.str, hy.str, q⟩
  | LtE =>
    refine key op_le ?_
    rintro x y H Q ⟨F, io, dx, dy, b, hx, hy, e, q⟩
    cases dx <;> cases dy <;> simp only [cmpD] at e <;> try contradiction
    cases e; exact ⟨_, _, hx.int, hy.int, q⟩
  | Gt =>
    refine key (op_gt.or op_gt_str) ?_
    rintro x y H Q ⟨F, io, dx, dy, b, hx, hy, e, q⟩
    cases dx <;> cases dy <;> simp only [cmpD] at e <;> try contradiction
    · cases e; exact .inl ⟨_, _, hx.int, hy.int, q⟩
    · cases e; exact .inr ⟨_, _, hx.str, hy.str, q⟩
  | GtE =>
    refine key op_ge ?_
    rintro x y H Q ⟨F, io, dx, dy, b, hx, hy, e, q⟩
    cases dx <;> cases dy <;> simp only [cmpD] at e <;> try contradiction
    cases e; exact ⟨_, _, hx.int, hy.int, q⟩
  | Is =>
    refine key (op_isN.or (op_isBl.or op_isOff)) ?_
    rintro x y H Q ⟨F, io, dx, dy, b, hx, hy, e, q⟩
    cases dy <;> simp only [cmpD] at e <;> try contradiction
    · cases e
      exact .inl ⟨hy.none, by rw [hx.non_iff]; exact q⟩
    · cases dx <;> simp only at e <;> cases e
      case bool.refl => exact .inr (.inl ⟨_, _, hx.bl, hy.bl, q⟩)
      all_goals exact .inr (.inr ⟨_, hy.bl, hx.notBl (fun b e => by cases e), q⟩)
  | IsNot =>
    refine key (op_notN.or (op_notBl.or op_notOff)) ?_
    rintro x y H Q ⟨F, io, dx, dy, b, hx, hy, e, q⟩
    cases dy <;> simp only [cmpD] at e <;> try contradiction
    · cases e
      exact .inl ⟨hy.none, by rw [hx.non_iff]; exact q⟩
    · cases dx <;> simp only at e <;> cases e
      case bool.refl => exact .inr (.inl ⟨_, _, hx.bl, hy.bl, q⟩)
      all_goals exact .inr (.inr ⟨_, hy.bl, hx.notBl (fun b e => by cases e), q⟩)
  | In =>
    refine key ((op_inT hu).or ((op_inDic (by omega)).or op_in_str)) ?_
    rintro x y H Q ⟨F, io, dx, dy, b, hx, hy, e, q⟩
    rcases in_cases hx hy (by simpa [cmpD] using e) with ⟨d, ds, h1, h2, h3, h4, h5⟩ | ⟨a, o, h1, h2, h3⟩ | ⟨i, j, h1, h2, h3⟩
    · exact .inl ⟨d, ds, h1, h2, h3, h4, by rw [h5]; exact q⟩
    · exact .inr (.inl ⟨a, o, h1, h2, by rw [h3]; exact q⟩)
    · exact .inr (.inr ⟨i, j, h1, h2, by rw [h3]; exact q⟩)
  | NotIn =>
    refine key ((op_notInT hu).or ((op_notInDic (by omega)).or op_notin_str)) ?_
    rintro x y H Q ⟨F, io, dx, dy, b, hx, hy, e, q⟩
    simp only [cmpD, Option.map_eq_some_iff] at e
    obtain ⟨c, e, rfl⟩ := e
    rcases in_cases hx hy e with ⟨d, ds, h1, h2, h3, h4, h5⟩ | ⟨a, o, h1, h2, h3⟩ | ⟨i, j, h1, h2, h3⟩
    · exact .inl ⟨d, ds, h1, h2, h3, h4, by rw [h5]; exact q⟩
    · exact .inr (.inl ⟨a, o, h1, h2, by rw [h3]; exact q⟩)
    · exact .inr (.inr ⟨i, j, h1, h2, by rw [h3]; exact q⟩)
end
end Pv
namespace Pv
open PySem PySem.Spec PyProof.Rows L2

/-! ## results as wishes -/
def Res {α : Type} (r : R α) (P : α → En → Sto → Prop) (E : Xc → En → Sto → Prop) : Prop := match r with
  | .ok a e s => P a e s
  | .ex x e s => E x e s
  | .no => False
theorem Res.to_bind {α β : Type} {r : R α} {f : α → En → Sto → R β} {P : β → En → Sto → Prop} {E : Xc → En → Sto → Prop} (h : Res r (fun a e s => Res (f a e s) P E) E) : Res (r.bind f) P E := by
  cases r <;> exact h
theorem Res.of_bind {α β : Type} {r : R α} {f : α → En → Sto → R β} {P : β → En → Sto → Prop} {E : Xc → En → Sto → Prop} (h : Res (r.bind f) P E) : Res r (fun a e s => Res (f a e s) P E) E := by
  cases r <;> exact h
theorem Res.mono {α : Type} {r : R α} {P P' : α → En → Sto → Prop} {E E' : Xc → En → Sto → Prop} (h : Res r P E) (hp : ∀ a e s, P a e s → P' a e s) (he : ∀ x e s, E x e s → E' x e s) : Res r P' E' := by
  cases r with
  | ok a e s => exact hp _ _ _ h
  | ex x e s => exact he _ _ _ h
  | no => exact h
theorem Res.of_of {o : Option DB} {e : En} {s : Sto} {P : DB → En → Sto → Prop} {E : Xc → En → Sto → Prop} (h : Res (R.of o e s) P E) : ∃ r, o = some r ∧ P r e s := by
  cases o with
  | none => exact h.elim
  | some r => exact ⟨r, rfl, h⟩

/-- what stays the same through a def: the module, the tables, the entry, what is wished of an exception -/
structure Px where
  K : PySem.W.Frag
  mg : Str → Option Value
  B : Tab
  G : Glb
  z : Zo
  W : WX
  dn : Str → Bool
  ct : Ct
  /-- in an except suite -/
  hot : Bool
/-- an exception of the text's own -/
def XR (K : PySem.W.Frag) (mg : Str → Option Value) (H : Hp) (F : Zn) (io : List Addr) (x : Xc) (cls : Value) (d : Option Addr) : Prop :=
  ∃ (C : Addr) (dd : Option Addr) (fs : List (Str × V)), mg x.c = some (.ref C) ∧ cls = .ref C ∧ d = dd ∧ (∀ b, dd = some b → H b = some (.xd fs) ∧ ¬ F b) ∧ fs.map (·.1) = x.fs.map (·.1) ∧ RepL K H F io (fs.map (·.2)) (x.fs.map (·.2)) ∧ (dd = none → fs = [])
def PoX (p : Px) (F : Zn) (io : List Addr) (H : Hp) (e' : En) (st' : Sto) (σ : L2.St) (x : Xc) (cls : Value) (d : Option Addr) (H' : Hp) : Prop :=
  ∃ F' io', Ext F io H F' io' H' ∧ SR p.K p.z F' io' e' st' σ H' ∧ XR p.K p.mg H' F' io' x cls d
def XW (p : Px) (F : Zn) (io : List Addr) (H : Hp) (σ : L2.St) : Xc → En → Sto → Prop := fun x e' st' => ∀ cls d H', PoX p F io H e' st' σ x cls d H' → p.W cls d σ H'
/-- the reading of an expression by the evaluator -/
def tev (p : Px) (c : E) : TE := fun σ H Q => ∃ F io e st, SR p.K p.z F io e st σ H ∧
  Res (ev p.B p.G c e st) (fun r e' st' => ∀ v H', PoE p.K p.z F io H e' st' σ r v H' → Q v H') (XW p F io H σ)
def tar (p : Px) : E → TE
  | .var i => tVar i
  | a => tev p a
def ArR (K : PySem.W.Frag) (H : Hp) (F : Zn) (io : List Addr) (σ : L2.St) (v : V) : Ar → Prop
  | .v d => Rep K H F io v d
  | .s i => σ[i]? = some (some v)
def ArL (K : PySem.W.Frag) (H : Hp) (F : Zn) (io : List Addr) (σ : L2.St) : List V → List Ar → Prop
  | [], [] => True
  | v :: vs, a :: as => ArR K H F io σ v a ∧ ArL K H F io σ vs as
  | _, _ => False
def PoA (K : PySem.W.Frag) (z : Zo) (F : Zn) (io : List Addr) (H : Hp) (e' : En) (st' : Sto) (σ : L2.St) (as : List Ar) (vs : List V) (H' : Hp) : Prop :=
  ∃ F' io', Ext F io H F' io' H' ∧ SR K z F' io' e' st' σ H' ∧ ArL K H' F' io' σ vs as
def tag (p : Px) (c : Es) : TA := fun σ H Q => ∃ F io e st, SR p.K p.z F io e st σ H ∧
  Res (ag p.B p.G c e st) (fun as e' st' => ∀ vs H', PoA p.K p.z F io H e' st' σ as vs H' → Q vs H') (XW p F io H σ)

section
variable {p : Px} {X : Cx} {F F' : Zn} {io io' : List Addr} {H H' : Hp} {e : En} {st : Sto} {σ : L2.St}
theorem XW.ext {x : Xc} {e' : En} {st' : Sto} (y : Ext F io H F' io' H') (h : XW p F io H σ x e' st') : XW p F' io' H' σ x e' st' := fun cls d H2 ⟨F2, io2, y2, s, r⟩ => h cls d H2 ⟨F2, io2, y.trans y2, s, r⟩
theorem PoE.ext {e' : En} {st' : Sto} {r : DB} {v : V} {H2 : Hp} (y : Ext F io H F' io' H') (h : PoE p.K p.z F' io' H' e' st' σ r v H2) : PoE p.K p.z F io H e' st' σ r v H2 :=
  let ⟨F2, io2, y2, s, q⟩ := h; ⟨F2, io2, y.trans y2, s, q⟩
theorem ArR.ext {v : V} {a : Ar} (y : Ext F io H F' io' H') (h : ArR p.K H F io σ v a) : ArR p.K H' F' io' σ v a := by
  cases a with
  | v d => exact Rep.ext y h
  | s i => exact h
theorem ArL.ext (y : Ext F io H F' io' H') : ∀ {as : List Ar} {vs : List V}, ArL p.K H F io σ vs as → ArL p.K H' F' io' σ vs as
  | [], [], _ => trivial
  | a :: as, v :: vs, ⟨h1, h2⟩ => ⟨ArR.ext y h1, ArL.ext y h2⟩
  | [], _ :: _, h => h
  | _ :: _, [], h => h
theorem ArL.length {K : PySem.W.Frag} : ∀ {as : List Ar} {vs : List V}, ArL K H F io σ vs as → vs.length = as.length
  | [], [], _ => rfl
  | a :: as, v :: vs, ⟨h1, h2⟩ => by simp [ArL.length h2]
  | [], _ :: _, h => h.elim
  | _ :: _, [], h => h.elim
theorem tev.mono {c : E} {Q Q' : VK} (h : tev p c σ H Q) (m : ∀ v H', Q v H' → Q' v H') : tev p c σ H Q' := by
  obtain ⟨F, io, e, st, s, r⟩ := h
  exact ⟨F, io, e, st, s, r.mono (fun a e' st' k v H' q => m _ _ (k v H' q)) fun _ _ _ x => x⟩
theorem tar.mono {c : E} {Q Q' : VK} (h : tar p c σ H Q) (m : ∀ v H', Q v H' → Q' v H') : tar p c σ H Q' := by
  unfold tar at h ⊢
  split at h
  · obtain ⟨v, e, q⟩ := h; exact ⟨v, e, m _ _ q⟩
  · exact h.mono m
theorem tag.mono {c : Es} {Q Q' : List V → Hp → Prop} (h : tag p c σ H Q) (m : ∀ v H', Q v H' → Q' v H') : tag p c σ H Q' := by
  obtain ⟨F, io, e, st, s, r⟩ := h
  exact ⟨F, io, e, st, s, r.mono (fun a e' st' k v H' q => m _ _ (k v H' q)) fun _ _ _ x => x⟩
theorem PE.imp {ex : Expr} {t t' : TE} (h : PE X ex t) (i : ∀ σ H Q, t' σ H Q → t σ H Q) : PE X ex t' := ⟨fun pins s σ H Q I q => h.run pins s σ H Q I (i _ _ _ q)⟩
theorem PA.imp {es : List Expr} {t t' : TA} (h : PA X es t) (i : ∀ σ H Q, t' σ H Q → t σ H Q) : PA X es t' := ⟨fun pos pins s σ H Q I q => h.run pos pins s σ H Q I (i _ _ _ q)⟩

theorem ag_cons (B : Tab) (G : Glb) {a : E} (h : ∀ i, a ≠ .var i) (r : Es) (e : En) (s : Sto) : ag B G (.cons a r) e s = (ev B G a e s).bind fun d e s => (ag B G r e s).bind fun as e s => .ok (.v d.1 :: as) e s := by
  cases a <;> first | rfl | exact absurd rfl (h _)
theorem isDef_slot {i : Nat} (s : SR p.K p.z F io e st σ H) (h : isDef e i = true) : ∃ v, σ[i]? = some (some v) := by
  unfold isDef at h
  split at h
  · rename_i d hd; obtain ⟨v, h1, _⟩ := s.fr i d hd; exact ⟨v, h1⟩
  · rename_i d hd; obtain ⟨v, h1, _⟩ := s.ow i d hd; exact ⟨_, h1⟩
  · cases h
theorem tag_cons {a : E} {r : Es} {Q : List V → Hp → Prop} (h : tag p (.cons a r) σ H Q) : tar p a σ H fun x H1 => tag p r σ H1 fun xs H2 => Q (x :: xs) H2 := by
  obtain ⟨F, io, e, st, s, h⟩ := h
  by_cases ha : ∃ i, a = .var i
  · obtain ⟨i, rfl⟩ := ha
    rw [ag] at h
    split at h
    · rename_i hd
      obtain ⟨v, hv⟩ := isDef_slot s hd
      refine ⟨v, hv, F, io, e, st, s, h.of_bind.mono (fun as e' st' k vs H' ⟨F', io', y, s', q⟩ => k _ H' ⟨F', io', y, s', hv, q⟩) fun _ _ _ x => x⟩
    · exact h.elim
  · have ha' : ∀ i, a ≠ .var i := fun i z => ha ⟨i, z⟩
    rw [ag_cons _ _ ha'] at h
    have e1 : tar p a = tev p a := by
      unfold tar; cases a <;> first | rfl | exact absurd rfl (ha' _)
    rw [e1]
    refine ⟨F, io, e, st, s, h.of_bind.mono (fun d e' st' k v H' po => ?_) fun _ _ _ x => x⟩
    obtain ⟨F', io', y, s', q⟩ := po.frz
    refine ⟨F', io', e', st', s', k.of_bind.mono (fun as e2 st2 k2 vs H2 ⟨F2, io2, y2, s2, q2⟩ => ?_) fun _ _ _ x => XW.ext y x⟩
    exact k2 _ H2 ⟨F2, io2, y.trans y2, s2, q.ext y2, q2⟩
theorem tag_nil {Q : List V → Hp → Prop} (h : tag p .nil σ H Q) : Q [] H := by
  obtain ⟨F, io, e, st, s, h⟩ := h
  exact h [] H ⟨F, io, .refl .., s, trivial⟩
theorem tag1 {a : E} {Q : List V → Hp → Prop} (h : tag p (.cons a .nil) σ H Q) : tar p a σ H fun x H1 => Q [x] H1 := (tag_cons h).mono fun _ _ q => tag_nil q
theorem tag2 {a b : E} {Q : List V → Hp → Prop} (h : tag p (.cons a (.cons b .nil)) σ H Q) : tar p a σ H fun x H1 => tar p b σ H1 fun y H2 => Q [x, y] H2 :=
  (tag_cons h).mono fun _ _ q => tag1 q
theorem tag3 {a b c : E} {Q : List V → Hp → Prop} (h : tag p (.cons a (.cons b (.cons c .nil))) σ H Q) : tar p a σ H fun x H1 => tar p b σ H1 fun y H2 => tar p c σ H2 fun w H3 => Q [x, y, w] H3 :=
  (tag_cons h).mono fun _ _ q => tag2 q

/-! ## the arguments' values -/
theorem rd1_fz1 (e : En) (i : Nat) (a : Ar) : rd1 (fz1 e i) a = rd1 e a := by
  unfold fz1
  split
  · rename_i d hd
    cases a with
    | v d => rfl
    | s j =>
      show ((e.set i (.fr d))[j]?).bind rdS = (e[j]?).bind rdS
      by_cases hj : i = j
      · subst hj
        rw [List.getElem?_set_self (List.getElem?_eq_some_iff.mp hd).1, hd]; rfl
      · rw [List.getElem?_set_ne hj]
  · rfl
theorem rd_fz1 (e : En) (i : Nat) : ∀ as : List Ar, rd (fz1 e i) as = rd e as
  | [] => rfl
  | a :: as => by simp only [rd, rd1_fz1, rd_fz1 e i as]
/-- the arguments are known to others from now on -/
theorem SR.fz {as : List Ar} : ∀ {F : Zn} {e : En} {vs : List V} {ds : List D}, SR p.K p.z F io e st σ H → ArL p.K H F io σ vs as → rd e as = some ds →
    ∃ F', Ext F io H F' io H ∧ SR p.K p.z F' io (Pv.fz e as) st σ H ∧ RepL p.K H F' io vs ds := by
  induction as with
  | nil =>
    intro F e vs ds s h r
    cases vs with
    | nil => cases r; exact ⟨F, .refl .., s, .nil⟩
    | cons _ _ => exact h.elim
  | cons a as ih =>
    intro F e vs ds s h r
    cases vs with
    | nil => exact h.elim
    | cons v vs =>
      obtain ⟨h1, h2⟩ := h
      simp only [rd, Option.bind_eq_some_iff, Option.map_eq_some_iff] at r
      obtain ⟨d, r1, ds', r2, rfl⟩ := r
      cases a with
      | v d' =>
        cases r1
        obtain ⟨F', y, s', q⟩ := ih s h2 r2
        exact ⟨F', y, s', .cons (Rep.ext y h1) q⟩
      | s i =>
        obtain ⟨F1, y1, s1⟩ := s.fz1 i
        have hr : rd (Pv.fz1 e i) as = some ds' := by rw [rd_fz1]; exact r2
        obtain ⟨F', y, s', q⟩ := ih s1 (ArL.ext y1 h2) hr
        refine ⟨F', y1.trans y, s', .cons (Rep.ext y ?_) q⟩
        have hv : rd1 (Pv.fz1 e i) (.s i) = some d := by rw [rd1_fz1]; exact r1
        simp only [rd1, Option.bind_eq_some_iff] at hv
        obtain ⟨sl, q1, q2⟩ := hv
        have hsl : sl = .fr d := by
          cases sl with
          | un => cases q2
          | xc x => cases q2
          | fr x => cases q2; rfl
          | ow x =>
            exfalso
            unfold Pv.fz1 at q1
            split at q1
            · rename_i d' hd
              rw [List.getElem?_set_self (List.getElem?_eq_some_iff.mp hd).1] at q1
              cases q1
            · rename_i hn
              exact hn _ q1
        subst hsl
        obtain ⟨v', g1, g2⟩ := s1.fr i d q1
        have h1' : σ[i]? = some (some v) := h1
        rw [h1'] at g1
        cases g1
        exact g2
/-- .. or read -/
theorem SR.ro {as : List Ar} : ∀ {vs : List V} {ds : List D}, SR p.K p.z F io e st σ H → ArL p.K H F io σ vs as → rd e as = some ds → ROL p.K H F io vs ds := by
  induction as with
  | nil =>
    intro vs ds s h r
    cases vs with
    | nil => cases r; trivial
    | cons _ _ => exact h.elim
  | cons a as ih =>
    intro vs ds s h r
    cases vs with
    | nil => exact h.elim
    | cons v vs =>
      obtain ⟨h1, h2⟩ := h
      simp only [rd, Option.bind_eq_some_iff, Option.map_eq_some_iff] at r
      obtain ⟨d, r1, ds', r2, rfl⟩ := r
      refine ⟨?_, ih s h2 r2⟩
      cases a with
      | v d' => cases r1; exact .inl h1
      | s i =>
        simp only [rd1, Option.bind_eq_some_iff] at r1
        obtain ⟨sl, q1, q2⟩ := r1
        have h1' : σ[i]? = some (some v) := h1
        cases sl with
        | un => cases q2
        | xc x => cases q2
        | fr x =>
          cases q2
          obtain ⟨v', g1, g2⟩ := s.fr i d q1
          rw [h1'] at g1; cases g1
          exact .inl g2
        | ow x =>
          cases q2
          obtain ⟨a, g1, g2, _⟩ := s.ow i d q1
          rw [h1'] at g1; cases g1
          exact .inr ⟨a, rfl, g2⟩
theorem RO.der {K : PySem.W.Frag} {v : V} {d d' : D} (c : Cel K F io st H) (h : RO K H F io v d) (q : der st d = some d') : RO K H F io v d' := by
  cases d with
  | loc n =>
    rcases h with h | ⟨_, _, _, _, q⟩
    · cases h with
      | loc e =>
        exact .inr ⟨_, rfl, c.cell n _ d' e q⟩
    · cases q
  | _ => cases q; exact h
theorem ROL.ders {K : PySem.W.Frag} (c : Cel K F io st H) : ∀ {ds ds' : List D} {vs : List V}, ROL K H F io vs ds → ders st ds = some ds' → ROL K H F io vs ds'
  | [], _, [], _, q => by cases q; trivial
  | [], _, _ :: _, h, _ => h.elim
  | _ :: _, _, [], h, _ => h.elim
  | d :: ds, _, v :: vs, ⟨h1, h2⟩, q => by
    simp only [Pv.ders, Option.bind_eq_some_iff, Option.map_eq_some_iff] at q
    obtain ⟨x, q1, xs, q2, rfl⟩ := q
    exact ⟨h1.der c q1, ROL.ders c h2 q2⟩
/-- an operation behind its arguments -/
def OpT (p : Px) (g : List D → Option DB) (σ : L2.St) (Q : VK) (vs : List V) (H2 : Hp) : Prop :=
  ∃ F io ds r, ROL p.K H2 F io vs ds ∧ g ds = some r ∧ ∀ v H', NV p.K H2 F io r v H' → Q v H'
theorem op_tag {es : Es} {g : List D → Option DB} {Q : VK} (s : SR p.K p.z F io e st σ H)
    (h : Res ((ag p.B p.G es e st).bind fun as e s => opR e s as fun ds => .of (g ds) e s) (fun r e' st' => ∀ v H', PoE p.K p.z F io H e' st' σ r v H' → Q v H') (XW p F io H σ)) :
    tag p es σ H (OpT p g σ Q) := by
  refine ⟨F, io, e, st, s, h.of_bind.mono (fun as e' st' k vs H' ⟨F', io', y, s', q⟩ => ?_) fun _ _ _ x => x⟩
  unfold opR at k
  split at k
  · rename_i ds hds
    obtain ⟨r, hr, k⟩ := k.of_of
    simp only [Option.bind_eq_some_iff] at hds
    obtain ⟨ds0, q1, q2⟩ := hds
    exact ⟨F', io', ds, r, (s'.ro q q1).ders s'.cel q2, hr, fun v H2 nv => k v H2 (PoE.ext y (NV.po s' nv))⟩
  · exact k.elim
end

/-! ## the rules -/
/-- expressions with their core terms -/
inductive PEs (X : Cx) (p : Px) : Es → List Expr → Prop
  | nil : PEs X p .nil []
  | cons {c : E} {r : Es} {ex : Expr} {l : List Expr} : PE X ex (tar p c) → (∀ es, starEach (ex :: es) X.env = (false, eval ex X.env) :: starEach es X.env) → PEs X p r l → PEs X p (.cons c r) (ex :: l)
section
variable {p : Px} {X : Cx} {es : Es} {c : E} {l : List Expr} {pos : Pos}
theorem PEs.pa (h : PEs X p es l) : PA X l (tag p es) := by
  induction h with
  | nil => exact PA.imp pa_nil fun _ _ _ q => tag_nil q
  | cons a s _ ih => exact PA.imp (pa_cons a ih (s _)) fun _ _ _ q => tag_cons q
theorem PEs.star (h : PEs X p es l) : starEach l X.env = l.map fun ex => (false, eval ex X.env) := by
  induction h with
  | nil => rfl
  | cons a s _ ih => rw [s, ih]; rfl
theorem PEs.plain (h : PEs X p es l) (pos : Pos) : (backTo pos (starEach l X.env)).any (·.1) = false := by
  rw [h.star]; unfold backTo
  induction l <;> simp_all
theorem PEs.two (h : PEs X p es [a, b]) : ∃ ca cb, es = .cons ca (.cons cb .nil) ∧ PE X a (tar p ca) ∧ PE X b (tar p cb) := by
  cases h with
  | cons h1 _ h =>
    cases h with
    | cons h2 _ h => cases h; exact ⟨_, _, rfl, h1, h2⟩
theorem PEs.one (h : PEs X p es [a]) : ∃ ca, es = .cons ca .nil ∧ PE X a (tar p ca) := by
  cases h with
  | cons h1 _ h => cases h; exact ⟨_, rfl, h1⟩
theorem pe_ebin {a b : Expr} {op : Operator} (hK : X.K = p.K) (h : PEs X p es [a, b]) : PE X (.BinOp a op b pos) (tev p (.bin op es)) := by
  obtain ⟨ca, cb, rfl, ha, hb⟩ := h.two
  refine PE.imp (pe_op (op_bin op) ha hb) fun σ H Q ⟨F, io, e, st, s, h⟩ => ?_
  rw [ev] at h
  refine (tag2 (op_tag s h)).mono fun x H1 q => q.mono fun y H2 q => ?_
  obtain ⟨F2, io2, ds, r, hr, hg, k⟩ := q
  match ds, hr, hg with
  | [d1, d2], ⟨r1, r2, _⟩, hg => exact ⟨F2, io2, d1, d2, r, hK ▸ r1, hK ▸ r2, hg, fun v H' nv => k v H' (hK ▸ nv)⟩
end
end Pv
/-! an own error with a dict: isinstance -/
namespace Pv
open PySem PySem.Spec PySem.Calls PySem.W PyProof.Rows
section
variable {prog : Program} {w : World} {A : Around} {E : Value → Shared → Prop} {s : Shared} {K : Frag} {x D : Addr} {ob : Obj} {od : Option Obj}
/-- __class__ of such an error -/
theorem xc_class {Q : Option Value → Shared → Prop} (C : L2.ExcC K D) (X : K.In s.heap) (J : InstAt s.heap x ob D od)
    (q : Q (some (.ref D)) { s with toks := s.toks + 1 }) : wpAny (model prog w) A (getAttr? (.ref x) "__class__") Q E s := by
  have hasC : (clsIn K D).isSome = true := by
    obtain ⟨cd, h, _⟩ := any_some C.hd
    rw [h]; rfl
  have fo : findObj K D od "__class__" = some (.bind (.builtin "getset_descriptor.__get__") (.builtin "object.__class__")) := by
    obtain ⟨cd, h⟩ := Option.isSome_iff_exists.mp hasC
    unfold findObj
    rw [h, Option.bind_some, C.ha, Option.bind_some]
    simp [C.hn, C.ht]
  obtain ⟨hh, gg, dd, tt, oo⟩ := s
  have t0 := J.type (M := model prog w)
  have t1 := looks_findIn (M := model prog w) X C.hg
  have t2 := looks_findIn (M := model prog w) X C.hk
  have t3 := looks_find (M := model prog w) X J fo
  have isB : Looks (model prog w) hh (isInstance (.ref x) (.type "BaseException")) true :=
    t0.andThen (looks_subIn X C.hs)
  have n2 : (Value.builtin "BaseException.__getattribute__" == .builtin "object.__getattribute__") = false := by
    decide +kernel
  have n1 : (onTheHeap (.ref D) && Value.builtin "BaseException.__getattribute__" == .builtin "object.__getattribute__") = false := by
    rw [n2]; rfl
  unfold getAttr? getAttrBy? getAttrBy
  refine wpAny_bind (wpAny_mkText (wpAny_bind (wpAny_attempt (wpAny_holding
    (wpAny_bind (t0.at (wpAny_bind (t1.at ?_))))))))
  refine wpAny_ite_false (by rw [n1]; simp) ?_
  unfold getAttrByItsOwn hookBefore
  refine wpAny_bind ?_
  refine wpAny_ite_true rfl ?_
  refine t2.at ?_
  refine wpAny_bind (wpAny_attempt (wpAny_holding ?_))
  unfold callGetattribute
  refine wpAny_ite_false (by simp [onTheHeap]) ?_
  unfold boundAndCalled
  rw [PySem.F.excAttr_ValueError.ga.bind (.ref x)]
  refine wpAny_bind (wpAny_pure ?_)
  have ga := PySem.F.excAttr_ValueError.ga
  refine wpAny_call (codeAny_call_builtin ga.plain PySem.F.entry_bexc_ga ?_)
  refine @check_slot (model prog w) _ _ ⟨hh, gg, dd, tt + 1, oo⟩
    "BaseException.__getattribute__" "BaseException" "__getattribute__"
    (.ref x) [.str "__class__" tt] [] _
    (by decide +kernel) (by decide +kernel) isB (PySem.F.args_bexc_ga (.ref x) (.str "__class__" tt)) ?_
  unfold Builtin.«object.__getattribute__»
  refine wpAny_bind (wpAny_of_eq (a := ((.ref x : Value), [.str "__class__" tt])) (by first | rfl | (simp only [slotArgs]; rfl)) ?_)
  refine wpAny_bind (wpAny_pure ?_)
  refine wpAny_bind (t0.at (wpAny_bind (t3.at ?_)))
  refine wpAny_bind (wpAny_holding (wpAny_call (class_get (s := ⟨hh, gg, dd, tt + 1, oo⟩) X J C.hm ?_)))
  refine wpAny_pure ?_
  show wpAny _ _ (handedOut (.ref D)) _ _ _
  have ho : handedOut (.ref D) = pure (.ref D) := handedOut_of rfl
  rw [ho]
  first
    | exact wpAny_pure (wpAny_pure q)
    | exact wpAny_pure q
/-- .. and what isinstance asks -/
theorem xc_kit (C : L2.ExcC K D) : KitX K (.ref x) (.ref D) (fun h => InstAt h x ob D od) := by
  obtain ⟨cd, hc, hdd⟩ := any_some C.hd
  have own : ∃ (d' : Option Addr) (c' : ClassData) (sl' : Array (Option Value)) (v' : Value), K.lookup D = some ⟨v', d', .cls c', sl'⟩ := by
    unfold clsIn at hc
    split at hc
    · rename_i v' d' c' sl' ho
      exact ⟨d', c', sl', v', ho⟩
    · cases hc
  obtain ⟨d', c', sl', v', ho⟩ := own
  constructor
  · exact fun _ _ _ J => J.type
  · intro M h X _ A' Q' E' s' k q
    unfold isType loadHead
    exact wpAny_bind (wpAny_loadPart (k _ _ (X _ _ ho)) (wpAny_pure q))
  · intro h tp dd its n sl X htp
    refine Bool.eq_false_iff.mpr fun q => ?_
    obtain rfl : D = tp := Value.ref.inj (eq_of_beq q)
    have z := X _ _ ho
    rw [htp] at z
    cases z
  · exact fun X J q => xc_class C X J q
end
end Pv
namespace Pv
open PySem PySem.Spec PyProof.Rows L2
section
variable {X : Cx} {a D : Addr} {oe : Obj} {d : Option Addr} {pn : List (Addr × Obj)} {pins : List (Addr × Obj)} {σ : L2.St} {H : Hp} {s : Shared}
/-- the error's dict stands -/
def XdAt (H : Hp) (d : Option Addr) : Prop := ∀ dd, d = some dd → ∃ fs, H dd = some (.xd fs)
/-- the caught error, as isinstance wants it -/
theorem xc_at (hz : Zc (.ref D) d oe) (hf : ∃ vs, oe.data = .fields vs) (J : Inv (X.suite a ((a, oe) :: pn)) pins σ H s) (hd : XdAt H d) : ∃ od, PySem.W.InstAt s.heap a oe D od := by
  have hget := (J.pin (a, oe) (by simp [Cx.suite])).1
  obtain ⟨vs, hv⟩ := hf
  have nc : PySem.W.notCls oe = true := by unfold PySem.W.notCls; rw [hv]
  cases d with
  | none => exact ⟨none, hget, hz.1, nc, by rw [hz.2]; trivial⟩
  | some dd =>
    obtain ⟨fs, h⟩ := hd dd rfl
    have x : ObjOk X.prog X.w H s.heap dd (.xd fs) := J.hok dd _ h
    obtain ⟨mA, ⟨o, es, ep, ho, _⟩, _⟩ := x
    exact ⟨some o, hget, hz.1, nc, by rw [hz.2]; exact ho⟩
theorem call_isX (C : ExcC X.K D) (hz : Zc (.ref D) d oe) (hf : ∃ vs, oe.data = .fields vs) : CallR (X.suite a ((a, oe) :: pn)) (.builtin "isinstance") (fun xs H Q => ∃ (c : V) (cv : Value) (b : Bool), xs = [.ref a, c] ∧ (∀ u, RelV c u → u = cv) ∧ PySem.W.kitOne X.K (.ref D) cv = some b ∧ XdAt H d ∧ Q (.bl b) H) := by
  intro pins s σ H xs us Q J r h
  obtain ⟨c, cv, b, rfl, hcv, e, hd, q⟩ := h
  cases r with
  | cons rx rr =>
    cases rr with
    | cons rt rr =>
      cases rr
      cases rx
      obtain rfl := hcv _ rt
      obtain ⟨od, I⟩ := xc_at hz hf J hd
      refine PySem.W.kia_one (xc_kit C) J.kIn I e (by intro z; cases z) fun tk => ?_
      exact ⟨.bl b, H, J.kept (t' := tk) fun _ _ z => z, rfl, q⟩
/-- .. of several classes -/
theorem call_isXs (C : ExcC X.K D) (hz : Zc (.ref D) d oe) (hf : ∃ vs, oe.data = .fields vs) : CallR (X.suite a ((a, oe) :: pn)) (.builtin "isinstance") (fun xs H Q => ∃ (t : Addr) (vs : List V) (cvs : List Value) (b : Bool), xs = [.ref a, .ref t] ∧ SqT X.K H t vs ∧ (∀ us, Vals vs us → us = cvs) ∧ PySem.W.kitAny X.K (.ref D) cvs = some b ∧ XdAt H d ∧ Q (.bl b) H) := by
  intro pins s σ H xs us Q J r h
  obtain ⟨t, vs, cvs, b, rfl, ht, hcv, e, hd, q⟩ := h
  cases r with
  | cons rx rr =>
    cases rr with
    | cons rt rr =>
      cases rr
      cases rx
      cases rt
      obtain ⟨od, I⟩ := xc_at hz hf J hd
      obtain ⟨its, r, ⟨⟨cls, dd, data, sl⟩, ho, hc, n, hdd⟩, hs⟩ := J.tuple ht
      simp only at hc hdd
      subst hc hdd
      obtain rfl := hcv _ r
      refine PySem.W.kia_tup (xc_kit C) J.kIn I ho e (by intro z; cases z) fun tk => ?_
      exact ⟨.bl b, H, J.kept (t' := tk) fun _ _ z => z, rfl, q⟩
end
end Pv
namespace Pv
open PySem PySem.Spec PyProof.Rows L2
/-- what an __init__ promises that but stores its arguments -/
def spXs (K : PySem.W.Frag) (fs : List Str) : Sp := fun vs H Q _ => ∃ (a C : Addr) (ys : List V), vs = .ref a :: ys ∧ ys.length = fs.length ∧ OexC K C ∧ (∀ f ∈ fs, PySem.W.findIn K (.ref C) f = some none) ∧ H a = some (exo a C none) ∧
  ∀ dx, H dx = none → dx ≠ a → Q .non (upd (upd H dx (exd dx (fs.zip ys).reverse)) a (exo a C (some dx)))
end Pv
namespace Pv
open PySem PySem.Spec PyProof.Rows L2
theorem upd_back {H : Hp} {a : Addr} {o : HO} (h : H a = none) : del (upd H a o) a = H := by
  funext b
  by_cases q : b = a
  · rw [q, del_same, h]
  · rw [del_ne q, upd_ne q]
/-- raise C(e, ..) -/
theorem raise1 {X : Cx} {W : WX} {c : Str} {fs : List Str} {C fI : Addr} {k : Nat} {fd : FuncData} {ps : List Str} {e : Expr} {es : List Expr} {ta : TA} {p pos rp : Pos} (hc : X.calm = true) (tk : Takes X W) (T : OexC X.K C)
    (iC : PySem.W.findIn X.K (.ref C) "__init__" = some (some (.ref fI))) (tI : PySem.W.typeIn X.K (.ref fI) = some (.type "function"))
    (Fn : FnOk X.prog X.w X.K X.mg X.base (L2.CX X.prog X.w) k fI fd ps (spXs X.K fs)) (hno : ∀ f ∈ fs, PySem.W.findIn X.K (.ref C) f = some none) (hl : fs.length ≤ 1000)
    (hr : Room (k + 1) X.A) (hb : Binds X.K fd ps []) (hg : Gl X c) (hm : X.mg c = some (.ref C)) (ha : PA X (e :: es) ta)
    (hmo : ∀ (σ : L2.St) (H : Hp) (Q Q' : List V → Hp → Prop), (∀ vs H', Q vs H' → Q' vs H') → ta σ H Q → ta σ H Q')
    (hdb : (c == ("__debug__" : Str)) = false) (he : starEach (e :: es) X.env = (false, eval e X.env) :: starEach es X.env) (hpl : (backTo pos (starEach es X.env)).any (·.1) = false) :
    PS X (.Raise (some (.Call (.Name c p) (e :: es) [] pos)) none rp) (fun _ σ H => ta σ H fun vs H1 => vs.length = fs.length ∧ ∀ d, H1 d = none → W (.ref C) (some d) σ (upd H1 d (.xd (fs.zip vs).reverse))) := by
  have hx : Passes (L2.CX X.prog X.w) X (fun _ _ _ => False) := passes_call tk fun _ _ _ _ h => h.elim
  have mk := pmk_oex (p := p) (pos := pos) T iC tI Fn hr hb .nil hx hg hm ha hdb he hpl
  have r := ps_raise (pos := rp) hc tk mk
  refine ⟨fun pins s σ H D I h => r.run pins s σ H D I ?_⟩
  refine hmo σ H _ _ (fun vs H1 ⟨e1, q⟩ => ?_) h
  refine ⟨by rw [e1]; exact hl, fun a ha => ⟨a, C, vs, by rw [List.append_nil], e1, T, hno, upd_same, fun dx h1 h2 => ⟨rfl, dx, (fs.zip vs).reverse, upd_same, ?_, ?_, ?_⟩⟩⟩
  · rw [upd_ne (fun z => h2 z), upd_same]
  · rw [upd_ne h2] at h1; exact h1
  · have h3 : H1 dx = none := by rw [upd_ne h2] at h1; exact h1
    have e2 : upd (del (upd (upd (upd H1 a (exo a C none)) dx (exd dx (fs.zip vs).reverse)) a (exo a C (some dx))) a) dx (.xd (fs.zip vs).reverse) = upd H1 dx (.xd (fs.zip vs).reverse) := by
      funext b
      by_cases q1 : b = dx
      · rw [q1, upd_same, upd_same]
      · rw [upd_ne q1, upd_ne q1]
        by_cases q2 : b = a
        · rw [q2, del_same, ha]
        · rw [del_ne q2, upd_ne q2, upd_ne q1, upd_ne q2]
    rw [e2]
    exact q dx h3
end Pv
/-! list(d.values()) -/
namespace Pv
open PySem PySem.Spec PyProof.Rows L2
section
variable {X : Cx} {o : Expr} {p pos apos mpos : Pos} {td : TE}
theorem vals_kv {kvs : List (L2.Key × V)} {vs : List (L2.Key × Value)} (rel : KV kvs vs) : ∀ {us : List Value}, us.length = vs.length → (∀ (j : Nat) (v : Value), us[j]? = some v → ∃ k, vs[j]? = some (k, v)) → Vals (kvs.map (·.2)) us := by
  unfold KV at rel
  induction rel with
  | nil =>
    intro us e1 e2
    cases us with
    | nil => exact .nil
    | cons _ _ => cases e1
  | cons h1 h2 ih =>
    intro us e1 e2
    cases us with
    | nil => cases e1
    | cons u us =>
      obtain ⟨k, e3⟩ := e2 0 u rfl
      cases e3
      exact .cons h1.2 (ih (by simpa using e1) fun j v e => e2 (j + 1) v (by simpa using e))
def tListVals (td : TE) : TE := fun σ H Q => td σ H fun x H1 => ∃ (a : Addr) (kvs : List (L2.Key × V)), x = .ref a ∧ Rd H1 a (.dK kvs) ∧ ∀ q, H1 q = none → Q (.ref q) (upd H1 q (.lst (kvs.map (·.2))))
theorem pe_listVals (hc : X.calm = true) (hg : Gl X "list") (hm : X.mg "list" = none) (hd : PE X o td) (hbase : attributeBase o "values" X.env (eval o X.env) = eval o X.env) (hline : (apos.endLine == mpos.line) = true) :
    PE X (.Call (.Name "list" p) [.Call (.Attribute o "values" apos) [] [] mpos] [] pos) (tListVals td) := by
  refine ⟨fun pins s σ H Q I h => ?_⟩
  refine wpAny_Call_Name_kw (ld_blt I hg hm (u := .type "list") (by decide +kernel) ?_ (by decide) (by decide))
  have hse : starEach [Expr.Call (.Attribute o "values" apos) [] [] mpos] X.env = [(false, eval (Expr.Call (.Attribute o "values" apos) [] [] mpos) X.env)] := rfl
  rw [hse]
  refine PySem.callWith_type1 (wpAny_Call_method0_late hbase hline (thn (hd.run pins s σ H _ I h) fun v s1 ⟨x, H1, I1, r1, a, kvs, ex, ha, q⟩ => ?_))
  subst ex
  obtain rfl : v = Value.ref a := r1
  obtain ⟨z, hsys, vs, rel, dof⟩ := dk_rd I1.hok ha
  obtain ⟨ep, dat⟩ := dof.dictAt
  have dat' := dat
  obtain ⟨ob, es, ho, ex, hdat, hko, hpr, hnd⟩ := dat'
  refine ⟨"dict", "dict.values", F.plainAttrs_dict, F.slot_dict_values, F.type_dict_values, ⟨ob, ho, ex.1⟩, fun b e => ?_, Calls.callWith_builtin rfl (PySem.evalArgs_none ?_)⟩
  · cases e
    exact ⟨ob, ho, ex.2.1⟩
  refine call_meetsIn F.slot_dict_values ⟨ob, ho, ex.1⟩ F.entry_dict_values (F.args_dict_values_1 _) (meets_dict_values (mixKind X.prog X.w) a hsys) ⟨⟨vs, dof⟩, ?_⟩
  have k1 : ∀ b u, s1.heap.get? b = some u → (s1.heap.push { cls := .type "dict_values", data := .fields #[.ref a] }).get? b = some u := fun b u e => Heap.get?_push_of_some _ e
  have dat1 : (s1.heap.push { cls := .type "dict_values", data := .fields #[.ref a] }).DictAt (mixKind X.prog X.w) a vs ep := dat.keep k1
  have I2 : Inv X pins σ H1 { s1 with heap := s1.heap.push { cls := .type "dict_values", data := .fields #[.ref a] } } := I1.kept (t' := s1.toks) k1
  have hl : kvs.length = vs.length := KV.length rel
  refine PySem.W.kdl_call (PySem.W.kdl_values (knd := mixKind X.prog X.w) (r := s1.heap.objs.size) (d := a) (kvs := vs) (ep := ep)) (I.ok.hd hc) ⟨⟨_, Heap.get?_push_size _ rfl, rfl, rfl⟩, dat1⟩ (by rw [← hl]; exact z) fun h' tk acc c' hk hD hacc => ?_
  have hv : Vals (kvs.map (·.2)) acc.toList := by
    have e1 : acc.toList.length = vs.length := by rw [Array.length_toList]; exact hacc.1
    have e2 : ∀ j v, acc.toList[j]? = some v → ∃ k, vs[j]? = some (k, v) := fun j v e => hacc.2 j v (by rw [← Array.getElem?_toList]; exact e)
    exact vals_kv rel e1 e2
  exact ⟨.ref _, upd H1 _ (.lst (kvs.map (·.2))), I2.laid (t' := tk) hk (Nat.le_refl _)
    (show ObjOk X.prog X.w _ _ _ (.lst (kvs.map (·.2))) from ⟨by rw [List.length_map]; exact z, acc.toList, c', hv, by rw [Array.toArray_toList]; exact hD⟩), rfl, q _ (I2.hok.fresh (Nat.le_refl _))⟩
end
end Pv
namespace Pv
open PySem PySem.Spec PyProof.Rows L2
theorem mem_dst {k : Int} : ∀ {l : List Int}, k ∈ dst l ↔ k ∈ l
  | [] => Iff.rfl
  | x :: xs => by
    unfold dst
    by_cases h : x ∈ xs
    · rw [if_pos h, mem_dst, List.mem_cons]
      exact ⟨.inr, fun q => q.elim (fun e => e ▸ h) id⟩
    · rw [if_neg h, List.mem_cons, List.mem_cons, mem_dst]
theorem nodup_dst : ∀ l : List Int, (dst l).Nodup
  | [] => List.nodup_nil
  | x :: xs => by
    unfold dst
    by_cases h : x ∈ xs
    · rw [if_pos h]; exact nodup_dst xs
    · rw [if_neg h]; exact List.nodup_cons.mpr ⟨fun q => h (mem_dst.mp q), nodup_dst xs⟩
theorem same_len {xs ys : List Int} (hx : xs.Nodup) (hy : ys.Nodup) (h : ∀ k, k ∈ xs ↔ k ∈ ys) : xs.length = ys.length := ((List.perm_ext_iff_of_nodup hx hy).mpr h).length_eq
/-- len(set(t)) of a tuple of ints -/
def tLenSetT (K : PySem.W.Frag) (ta : TE) : TE := fun σ H Q => ta σ H fun x H1 => ∃ (l : Addr) (ns : List Int), x = .ref l ∧ SqT K H1 l (ns.map V.int) ∧ ns.length ≤ 4000 ∧ Q (.int ((dst ns).length : Nat)) H1
theorem pe_lenSetT {X : Cx} {a : Expr} {ta : TE} {p p2 q pos : Pos} (hg : Gl X "len") (hm : X.mg "len" = none) (hg2 : Gl X "set") (hm2 : X.mg "set" = none) (ha : PE X a ta) (hc : X.calm = true)
    (na : starEach [a] X.env = (false, eval a X.env) :: starEach [] X.env := by rfl) : PE X (.Call (.Name "len" p) [.Call (.Name "set" p2) [a] [] q] [] pos) (tLenSetT X.K ta) := by
  refine ⟨fun pins s σ H Q I h => ?_⟩
  refine Call_ (ld_blt I hg hm PySem.boot_len ?_)
  refine PyProof.Rows.callWith_builtin1 (PyProof.Rows.args_cons ?_ rfl) rfl rfl
  refine Call_ (ld_blt I hg2 hm2 PyProof.Rows.boot_set ?_)
  refine PyProof.Rows.callWith_type1 (PyProof.Rows.args_cons (thn (ha.run pins s σ H _ I h) fun v s1 ⟨x, H1, I1, r1, q1⟩ => PyProof.Rows.args_nil ?_) na) na rfl
  obtain ⟨l, ns, rfl, hq, hl, q1⟩ := q1
  cases r1
  obtain ⟨its, rv, pt, hz⟩ := I1.tuple hq
  have hi : IntsAre its.toArray.toList ns := ints_of_vals rv
  refine call_set_tupI ns (I1.ok.hd hc) (show s1.heap.IsTuple l its.toArray from pt) hi (by unfold scanBound; omega) fun h' tk c R1 hcn hk => ?_
  refine PyProof.Rows.args_nil ?_
  obtain ⟨o, es, ep, t, ho, hex, hd, g, nd, hm3, hb, hf, hn, hr, hl2⟩ := R1
  have hcount : es.size = (dst ns).length := by
    have e1 := same_len nd (nodup_dst ns) fun k => by
      rw [← hm3 k, mem_dst]; simp
    rw [List.length_map, Array.length_toList] at e1
    exact e1
  have hle : (dst ns).length ≤ ns.length := by rw [← hcount, hn]; exact hcn
  have I2 : Inv X pins σ H1 { s1 with heap := h', toks := tk } := I1.kept fun b o e => hk b o e
  exact call_len_set ho hex hd hf (by omega) ⟨.int ((dst ns).length : Nat), H1, I2.tok _, ⟨_, by rw [hcount]⟩, q1⟩
end Pv
namespace Pv
open PySem PySem.Spec PyProof.Rows L2

/-! ## a call -/
/-- behind a call: what was tracked stands, but for the store's objects; new things are new -/
structure ExtC (F : Zn) (io : List Addr) (H : Hp) (F' : Zn) (io' : List Addr) (H' : Hp) : Prop where
  ff : ∀ a, F a → F' a
  frm : ∀ a u, H a = some u → a ∉ io → H' a = some u
  io : ∃ l, io' = io ++ l ∧ ∀ a ∈ l, H a = none
  new : ∀ a, F' a → F a ∨ H a = none
def PoC (K : PySem.W.Frag) (F : Zn) (io : List Addr) (H : Hp) (st' : Sto) (r : DB) (v : V) (H' : Hp) : Prop :=
  ∃ F' io', ExtC F io H F' io' H' ∧ Cel K F' io' st' H' ∧
    (if r.2 then ∃ a, v = .ref a ∧ Ob K H' F' io' a r.1 ∧ ¬ F' a ∧ a ∉ io' ∧ H a = none else Rep K H' F' io' v r.1)
def PoCX (K : PySem.W.Frag) (mg : Str → Option Value) (F : Zn) (io : List Addr) (H : Hp) (st' : Sto) (x : Xc) (cls : Value) (d : Option Addr) (H' : Hp) : Prop :=
  ∃ F' io', ExtC F io H F' io' H' ∧ Cel K F' io' st' H' ∧ XR K mg H' F' io' x cls d
/-- a def's promise -/
def spT (K : PySem.W.Frag) (mg : Str → Option Value) (t : List D → Sto → Option (Rv × Sto)) : Sp := fun vs H Q E => ∃ F io ds st, Cel K F io st H ∧ RepL K H F io vs ds ∧
  match t ds st with
  | some (.rt d w, st') => ∀ v H', PoC K F io H st' (d, w) v H' → Q v H'
  | some (.rx x, st') => ∀ cls dd H', PoCX K mg F io H st' x cls dd H' → E cls dd H'
  | none => False
mutual
inductive GV (K : PySem.W.Frag) : Value → D → Prop
  | int (i : Int) (t) : GV K (.int i t) (.int i)
  | str (s : Str) (t) : GV K (.str s t) (.str s)
  | bl (b : Bool) : GV K (.bool b) (.bool b)
  | non : GV K .none .none
  | tup {p : Addr} {dd : Option Addr} {us : List Value} {n : Nat} {sl : Array (Option Value)} {ds : List D} (l : K.lookup p = some ⟨.type "tuple", dd, .seq us.toArray n, sl⟩) (hs : us.length ≤ sizeLine) (h : GVs K us ds) : GV K (.ref p) (.tup ds)
  | lst {p : Addr} {us : List Value} {n : Nat} {ds : List D} (l : K.lookup p = some ⟨.type "list", none, .seq us.toArray n, #[]⟩) (hs : us.length ≤ sizeLine) (h : GVs K us ds) : GV K (.ref p) (.lst ds)
inductive GVs (K : PySem.W.Frag) : List Value → List D → Prop
  | nil : GVs K [] []
  | cons {u : Value} {d : D} {us : List Value} {ds : List D} (h : GV K u d) (hs : GVs K us ds) : GVs K (u :: us) (d :: ds)
end
mutual
theorem GV.rel {K : PySem.W.Frag} : ∀ {d : D} {u : Value}, GV K u d → ∃ v, RelV v u ∧ ∀ H F io, Rep K H F io v d
  | .int i, _, h => by cases h with | int i t => exact ⟨.int i, ⟨t, rfl⟩, fun _ _ _ => .int i⟩
  | .str s, _, h => by cases h with | str s t => exact ⟨.str s, ⟨t, rfl⟩, fun _ _ _ => .str s⟩
  | .bool b, _, h => by cases h; exact ⟨.bl b, rfl, fun _ _ _ => .bl b⟩
  | .none, _, h => by cases h; exact ⟨.non, rfl, fun _ _ _ => .non⟩
  | .tup ds, _, h => by
    cases h with
    | @tup p dd us n sl _ l hs h =>
      obtain ⟨vs, r, q⟩ := GVs.rel h
      exact ⟨.ref p, rfl, fun H F io => .tup (.inr ⟨_, us.toArray, n, l, rfl, rfl, by simpa using hs, by simpa using r⟩) (q H F io)⟩
  | .lst ds, _, h => by
    cases h with
    | @lst p us n _ l hs h =>
      obtain ⟨vs, r, q⟩ := GVs.rel h
      exact ⟨.ref p, rfl, fun H F io => .lst (.inr ⟨_, us.toArray, n, l, rfl, rfl, rfl, by simpa using hs, by simpa using r⟩) (q H F io)⟩
  | .dic _, _, h => by cases h
  | .loc _, _, h => by cases h
  | .ty _, _, h => by cases h
  | .obj _ _, _, h => by cases h
theorem GVs.rel {K : PySem.W.Frag} : ∀ {ds : List D} {us : List Value}, GVs K us ds → ∃ vs, Vals vs us ∧ ∀ H F io, RepL K H F io vs ds
  | [], _, h => by cases h; exact ⟨[], .nil, fun _ _ _ => .nil⟩
  | d :: ds, _, h => by
    cases h with
    | cons h hs =>
      obtain ⟨v, r, q⟩ := GV.rel h
      obtain ⟨vs, rs, qs⟩ := GVs.rel hs
      exact ⟨v :: vs, .cons r rs, fun H F io => .cons (q H F io) (qs H F io)⟩
end
/-- the entries of a dict of the module -/
inductive EsR (K : PySem.W.Frag) : List DictEntry → List (D × D) → Prop
  | nil : EsR K [] []
  | cons {k : L2.Key} {e : DictEntry} {d : D} {r : List DictEntry} {rs : List (D × D)} : keyIs k e.key = true → GV K e.val d → EsR K r rs → EsR K (e :: r) ((keyD k, d) :: rs)
theorem keyIs_same {k z : L2.Key} {v : Value} (h : keyIs k v = true) : keyIs z v = sameK (keyD k) (keyD z) := by
  rcases keyIs_shape h with ⟨i, t, rfl, rfl⟩ | ⟨x, t, rfl, rfl⟩ <;> cases z with
  | inl j => first
    | (show (i == j) = decide (i = j); by_cases e : i = j <;> simp [e])
    | rfl
  | inr y => first
    | (show (x == y) = decide (x = y); by_cases e : x = y <;> simp [e])
    | rfl
theorem EsR.find {K : PySem.W.Frag} {z : L2.Key} : ∀ {l : List DictEntry} {kvs : List (D × D)}, EsR K l kvs →
    ((lookK kvs (keyD z) = none ∧ l.find? (fun e => keyIs z e.key) = none) ∨ ∃ d e, lookK kvs (keyD z) = some d ∧ l.find? (fun e => keyIs z e.key) = some e ∧ GV K e.val d)
  | _, _, .nil => .inl ⟨rfl, rfl⟩
  | _, _, @EsR.cons _ k e d r rs h g hs => by
    have q := hs.find (z := z)
    have ki := keyIs_same (z := z) h
    rw [List.find?_cons, ki]
    unfold lookK
    cases sameK (keyD k) (keyD z) with
    | true => exact .inr ⟨d, e, rfl, rfl, g⟩
    | false => exact q
/-- at a: a dict of the module, its keys ints and texts -/
structure MDict (K : PySem.W.Frag) (w : World) (a : Addr) (es : Array DictEntry) (n : Nat) : Prop where
  at_ : K.lookup a = some ⟨.type "dict", none, .dict es n, #[]⟩
  keys : ∀ e ∈ es, ∃ k : L2.Key, keyIs k e.key = true ∧ e.hash = keyH w k
  low : (a == sysModules) = false
theorem MDict.mapOf {P : Program} {w : World} {K : PySem.W.Frag} {h : Heap} {a : Addr} {es : Array DictEntry} {n : Nat} (D : MDict K w a es n) (X : K.In h) : h.MapOf (mixKind P w) a (fun k => findBy keyIs es k) :=
  ⟨_, es, n, X _ _ D.at_, ⟨rfl, rfl, rfl⟩, rfl, D.keys, fun _ => rfl⟩
/-- a dict of the module by its name -/
def GD (w : World) (K : PySem.W.Frag) (mg : Str → Option Value) (x : Str) (kvs : List (D × D)) : Prop :=
  ∃ (a : Addr) (es : Array DictEntry) (n : Nat), mg x = some (.ref a) ∧ MDict K w a es n ∧ EsR K es.toList kvs
theorem GD.ns {K : PySem.W.Frag} {es : Array DictEntry} {kvs : List (D × D)} (r : EsR K es.toList kvs) (z : L2.Key) :
    (lookK kvs (keyD z) = none ∧ findBy keyIs es z = none) ∨ ∃ d u v, lookK kvs (keyD z) = some d ∧ findBy keyIs es z = some u ∧ RelV v u ∧ ∀ H F io, Rep K H F io v d := by
  have e : findBy keyIs es z = (es.toList.find? fun e => keyIs z e.key).map (·.val) := by
    obtain ⟨l⟩ := es
    unfold findBy
    rw [List.find?_toArray]
  rcases r.find (z := z) with ⟨h1, h2⟩ | ⟨d, q, h1, h2, g⟩
  · exact .inl ⟨h1, by rw [e, h2]; rfl⟩
  · obtain ⟨v, g1, g2⟩ := g.rel
    exact .inr ⟨d, q.val, v, h1, by rw [e, h2]; rfl, g1, g2⟩
/-! the rules -/
def rIxM (K : PySem.W.Frag) (w : World) : R2 := fun x y H Q => ∃ p k es n u v, x = .ref p ∧ y = kV k ∧ MDict K w p es n ∧ findBy keyIs es k = some u ∧ RelV v u ∧ Q v H
theorem ix_mdict {X : Cx} : IxR X (rIxM X.K X.w) := by
  intro value slice pins s σ H x y v u Q I rx ry h hs
  obtain ⟨p, k, es, n, u0, r, rfl, rfl, D, e, ru, q⟩ := h
  obtain rfl : v = Value.ref p := rx
  have hm := D.mapOf (P := X.prog) I.kIn
  exact tail_any hm.typeIs slot_dict_getitem.lookup (wpAny_getItem_of (kV_is ry) hm e ⟨r, H, I.tok _, ru, q⟩) hs
def rInM (K : PySem.W.Frag) (w : World) (nn : Bool) : R2 := fun x y H Q => ∃ p k es n, x = kV k ∧ y = .ref p ∧ MDict K w p es n ∧ Q (.bl (if nn then !(findBy keyIs es k).isSome else (findBy keyIs es k).isSome)) H
theorem op_in_md {X : Cx} (nn : Bool) : OpR X (compareOp (if nn then .NotIn else .In)) (rInM X.K X.w nn) := by
  intro pins s σ H x y v u Q I rx ry h
  obtain ⟨p, k, es, n, rfl, rfl, D, q⟩ := h
  cases ry
  have hm := D.mapOf (P := X.prog) I.kIn
  cases nn with
  | false => exact wpAny_in_of (kV_is rx) D.low hm ⟨.bl _, H, I.tok _, rfl, q⟩
  | true => exact wpAny_notIn_of (kV_is rx) D.low hm ⟨.bl _, H, I.tok _, rfl, q⟩
def GOf (w : World) (K : PySem.W.Frag) (mg : Str → Option Value) (x : Str) (d : D) : Prop :=
  (∃ kvs, d = .dic kvs ∧ GD w K mg x kvs) ∨ d.isDic = false ∧ ((∃ u v, mg x = some u ∧ RelV v u ∧ ∀ H F io, Rep K H F io v d) ∨ (mg x = none ∧ x ≠ "__name__" ∧ ∃ u v, bootBuiltins x = some u ∧ RelV v u ∧ ∀ H F io, Rep K H F io v d))
/-- a class by its name: the text's own, or built-in -/
def CvOk (mg : Str → Option Value) (t : Str) (cv : Value) : Prop := (mg t = some cv ∧ ∃ a, cv = .ref a) ∨ (mg t = none ∧ t ≠ "__name__" ∧ bootBuiltins t = some cv ∧ ∃ n, cv = .type n)
inductive CvsOk (mg : Str → Option Value) : List Str → List Value → Prop
  | nil : CvsOk mg [] []
  | cons {t : Str} {cv : Value} {ts : List Str} {cvs : List Value} : CvOk mg t cv → CvsOk mg ts cvs → CvsOk mg (t :: ts) (cv :: cvs)
/-- what isinstance asks of an own class -/
structure InsO (K : PySem.W.Frag) (C : Addr) : Prop where
  cl : Cls K C
  ha : PySem.W.findIn K (.ref C) "__class__" = some (some (.builtin "object.__class__"))
  hn : PySem.W.specialIn K (.builtin "object.__class__") "__get__" = some (some (.builtin "getset_descriptor.__get__"))
  htk : PySem.W.takesIn K (.builtin "object.__class__") = some true
  hm : PySem.W.mroIn K C (.type "object") = some true
  me : PySem.W.kitOne K (.ref C) (.ref C) = some true
/-- what is asked of the text's own errors -/
structure XcOk (K : PySem.W.Frag) (mg : Str → Option Value) (ct : Ct) : Prop where
  xi : ∀ c cs b, (c, cs, b) ∈ ct.xi → ∃ C cvs, mg c = some (.ref C) ∧ ExcC K C ∧ CvsOk mg cs cvs ∧ PySem.W.kitAny K (.ref C) cvs = some b
  xf : ∀ c f, (c, f) ∈ ct.xf → ∃ C, mg c = some (.ref C) ∧ XfC K C ∧ PySem.W.findIn K (.ref C) f = some none
  xm : ∀ c t b, (c, t, b) ∈ ct.xm → ∃ C cv, mg c = some (.ref C) ∧ CvOk mg t cv ∧ PySem.W.exmOne K (.ref C) cv = some b
  xo : ∀ c, c ∈ ct.xo → ∃ C, mg c = some (.ref C) ∧ ClsAt K c C ∧ InsO K C
  xz : ∀ c, c ∈ ct.xz → ∃ C, mg c = some (.ref C) ∧ PySem.W.excIn K C [.type "ValueError", .type "Exception", .type "BaseException", .type "object"] "ValueError.__new__" = true ∧ PySem.W.keepIn K (.ref C) = true ∧ PySem.W.subIn K (.ref C) (.type "BaseException") = some true ∧ PySem.W.typeIn K (.ref C) = some (.type "type")
/-- what the rules ask of the frame -/
structure Sok (p : Px) (X : Cx) : Prop where
  K : X.K = p.K
  mg : X.mg = p.mg
  calm : p.hot = false → X.calm = true
  nd : X.N.Nodup
  hu : X.A.units + 65 < cLine
  tk : Takes X p.W
  tab : ∀ f, p.dn f = true → ∃ a fd ps k, X.mg f = some (.ref a) ∧ FnOk X.prog X.w X.K X.mg X.base (L2.CX X.prog X.w) k a fd ps (spT X.K X.mg (p.B f)) ∧ Room k X.A ∧ PySem.W.keepIn X.K (.ref a) = true ∧ Binds X.K fd ps []
  glb : ∀ x d, p.G x = some d → GOf X.w X.K X.mg x d
  blt : ∀ x ∈ bltAll, X.mg x = none
  att : ∀ c f, (c, f) ∈ p.ct.an → ∃ C, ClsAt X.K c C ∧ Cls X.K C ∧ NoAttr X.K C f
  new : ∀ c key, (c, key) ∈ p.ct.cn → ∃ C f fd ps k, X.mg c = some (.ref C) ∧ ClsAt X.K c C ∧ Mk X.K C f ∧ FnOk X.prog X.w X.K X.mg X.base (L2.CX X.prog X.w) k f fd ps (spT X.K X.mg (p.B key)) ∧ Room (k + 1) X.A ∧ Binds X.K fd ps []
  met : ∀ c m key, (c, m, key) ∈ p.ct.mn → ∃ C f fd ps k, ClsAt X.K c C ∧ Cls X.K C ∧ Meth X.K C m f ∧ FnOk X.prog X.w X.K X.mg X.base (L2.CX X.prog X.w) k f fd ps (spT X.K X.mg (p.B key)) ∧ Room k X.A ∧ Binds X.K fd ps []
  prp : ∀ c m key, (c, m, key) ∈ p.ct.pn → ∃ C q g fd ps k, ClsAt X.K c C ∧ Cls X.K C ∧ PropOf X.K C m q g ∧ FnOk X.prog X.w X.K X.mg X.base (L2.CX X.prog X.w) k g fd ps (spT X.K X.mg (p.B key)) ∧ Room (k + 1) X.A ∧ Binds X.K fd ps []
  opn : ∀ c key, (c, key) ∈ p.ct.on → ∃ C f fd ps k, ClsAt X.K c C ∧ PySem.W.selfFirst X.K C = true ∧ PySem.W.findIn X.K (.ref C) "__add__" = some (some (.ref f)) ∧ PySem.W.isFn X.K (.ref f) = true ∧ FnOk X.prog X.w X.K X.mg X.base (L2.CX X.prog X.w) k f fd ps (spT X.K X.mg (p.B key)) ∧ Room k X.A ∧ Binds X.K fd ps []
  exn : ∀ c fs, (c, fs) ∈ p.ct.xn → ∃ C fI fd ps k, X.mg c = some (.ref C) ∧ OexC X.K C ∧ PySem.W.findIn X.K (.ref C) "__init__" = some (some (.ref fI)) ∧ PySem.W.typeIn X.K (.ref fI) = some (.type "function") ∧
    FnOk X.prog X.w X.K X.mg X.base (L2.CX X.prog X.w) k fI fd ps (spXs X.K fs) ∧ (∀ f ∈ fs, PySem.W.findIn X.K (.ref C) f = some none) ∧ Room (k + 1) X.A ∧ Binds X.K fd ps []
  exk : XcOk X.K X.mg p.ct
  sui : p.hot = true → ∃ (X0 : Cx) (oe : Obj) (pn : List (Addr × Obj)) (q : Xat), X = X0.suite q.a ((q.a, oe) :: pn) ∧ p.z.xa = some q ∧ Zc (.ref q.C) q.dd oe ∧ (∃ vs, oe.data = .fields vs) ∧
    p.mg q.x.c = some (.ref q.C) ∧ q.fs.map (·.1) = q.x.fs.map (·.1) ∧ (∀ K H F io, RepL K H F io (q.fs.map (·.2)) (q.x.fs.map (·.2))) ∧ (q.dd = none → q.fs = [])
section
variable {K : PySem.W.Frag} {z : Zo} {F F' : Zn} {io io' : List Addr} {H H' : Hp} {e : En} {st st' : Sto} {σ : L2.St}
theorem SR.ni0 (s : SR K z F io e st σ H) {a : Addr} {u : HO} (h : z.H0 a = some u) (n : a ∉ z.i0) : a ∉ io := by
  obtain ⟨l, e1, e2⟩ := s.pre
  rw [e1]
  intro hm
  rcases List.mem_append.mp hm with hm | hm
  · exact n hm
  · rw [e2 a hm] at h; cases h
theorem Cel.notup (c : Cel K F io st H) {a : Addr} {xs : List V} (h : Rd H a (.tup xs)) : a ∉ io := by
  intro hm
  obtain ⟨n, hn, e⟩ := List.mem_iff_getElem.mp hm
  have h1 : io[n]? = some a := by rw [List.getElem?_eq_getElem hn, e]
  have hn2 : n < st.length := by rw [← c.len]; exact hn
  obtain ⟨u, q, r⟩ := c.cell n a st[n] h1 (List.getElem?_eq_getElem hn2)
  have m := r.mut
  rcases h with h | ⟨_, h⟩ <;> rw [q] at h <;> cases h <;> exact m.elim
theorem rd_keep {a : Addr} {u : HO} (h : ∀ u, H a = some u → H' a = some u) (r : Rd H a u) : Rd H' a u := by
  rcases r with r | ⟨o, r⟩
  · exact .inl (h _ r)
  · exact .inr ⟨o, h _ r⟩
theorem ExtC.ext (c : Cel K F io st H) (x : ExtC F io H F' io' H') : Ext F io H F' io' H' := by
  refine ⟨x.ff, fun a u hf _ r => rd_keep (fun u q => x.frm a u q fun hm => c.nof a hm hf) r, fun a xs r => rd_keep (fun u q => x.frm a u q (c.notup r)) r, fun a C dx fs hf r => x.frm a _ r fun hm => c.nof a hm hf, ?_⟩
  obtain ⟨l, e, _⟩ := x.io
  exact ⟨l, e⟩
theorem ExtC.frF (c : Cel K F io st H) (x : ExtC F io H F' io' H') {a : Addr} (h : ∃ u, H a = some u) (n : ¬ F a) : ¬ F' a := fun q => by
  obtain ⟨u, h⟩ := h
  rcases x.new a q with z | z
  · exact n z
  · rw [h] at z; cases z
theorem ExtC.frI (x : ExtC F io H F' io' H') {a : Addr} (h : ∃ u, H a = some u) (n : a ∉ io) : a ∉ io' := fun q => by
  obtain ⟨u, h⟩ := h
  obtain ⟨l, e, hl⟩ := x.io
  rw [e] at q
  rcases List.mem_append.mp q with z | z
  · exact n z
  · rw [hl a z] at h; cases h
/-- behind a call with the store -/
theorem SR.call (s : SR K z F io e st σ H) (x : ExtC F io H F' io' H') (c : Cel K F' io' st' H') : SR K z F' io' e st' σ H' := by
  have xx := x.ext s.cel
  refine ⟨c, s.el, fun i d q => ?_, fun i d q => ?_, s.sep, fun a u q n => ?_, ?_, fun a ha => (x.new a ha).elim (s.fnw a) fun q => .inr (s.h0 q), s.xc⟩
  · obtain ⟨v, h1, h2⟩ := s.fr i d q
    exact ⟨v, h1, h2.ext xx⟩
  · obtain ⟨a, h1, h2, h3, h4, h5⟩ := s.ow i d q
    refine ⟨a, h1, ?_, x.frF s.cel h2.there h3, x.frI h2.there h4, h5⟩
    obtain ⟨u, hu⟩ := h2.there
    exact h2.ext xx ((x.frm a u hu h4).trans hu.symm)
  · exact x.frm a u (s.frm a u q n) (s.ni0 q n)
  · obtain ⟨l, e1, e2⟩ := s.pre
    obtain ⟨m, e3, e4⟩ := x.io
    refine ⟨l ++ m, by rw [e3, e1, List.append_assoc], fun a hm => ?_⟩
    rcases List.mem_append.mp hm with hm | hm
    · exact e2 a hm
    · exact s.h0 (e4 a hm)
theorem SR.callR {r : DB} {v : V} (s : SR K z F io e st σ H) (h : PoC K F io H st' r v H') : PoE K z F io H e st' σ r v H' := by
  obtain ⟨F1, io1, x, c, q⟩ := h
  refine ⟨F1, io1, x.ext s.cel, s.call x c, ?_⟩
  unfold VR
  split at q
  · rename_i hw
    rw [if_pos hw]
    obtain ⟨a, rfl, ho, n1, n2, n3⟩ := q
    refine ⟨a, rfl, ho, n1, n2, s.h0 n3, fun i d' q1 q2 => ?_⟩
    obtain ⟨b, g1, g2, _⟩ := s.ow i d' q1
    rw [q2] at g1
    cases g1
    obtain ⟨u, q⟩ := g2.there
    rw [n3] at q; cases q
  · rename_i hw
    rw [if_neg hw]
    exact q
/-- where all that was tracked stands -/
theorem ext_grow (h : ∀ a u, H a = some u → H' a = some u) : Ext F io H F io H' := ⟨fun _ x => x, fun a u _ _ r => rd_keep (h a) r, fun a xs r => rd_keep (h a) r, fun a C dx fs _ r => h a _ r, [], by simp⟩
theorem SR.grow (s : SR K z F io e st σ H) (h : ∀ a u, H a = some u → H' a = some u) : SR K z F io e st σ H' := by
  have x := ext_grow (F := F) (io := io) h
  have ob : ∀ {b : Addr} {d : D}, Ob K H F io b d → Ob K H' F io b d := fun {b d} k => by
    obtain ⟨u, q⟩ := k.there
    exact k.ext x ((h b u q).trans q.symm)
  refine ⟨⟨fun b hb => ?_, s.cel.len, s.cel.nd, s.cel.nof, fun n b d h1 h2 => ob (s.cel.cell n b d h1 h2)⟩, s.el, fun i d q => ?_, fun i d q => ?_, s.sep, fun b u q n => h b u (s.frm b u q n), s.pre, s.fnw, s.xc⟩
  · obtain ⟨u, q⟩ := s.cel.dom b hb
    exact ⟨u, h b u q⟩
  · obtain ⟨v, h1, h2⟩ := s.fr i d q
    exact ⟨v, h1, h2.ext x⟩
  · obtain ⟨b, h1, h2, h3⟩ := s.ow i d q
    exact ⟨b, h1, ob h2, h3⟩
theorem tight_imm {d : D} {w : Bool} (h : tight d w = true) : d.imm = true ∨ (w = true ∧ immH d = true) := by
  unfold tight at h
  simpa only [Bool.or_eq_true, Bool.and_eq_true] using h
/-- behind a pure call whose answer knows none of the lists -/
theorem SR.callT {F1 : Zn} {r : DB} {v : V} (s : SR K z F io e st σ H) (ht : tight r.1 r.2 = true) (h : PoC K F1 [] H st' r v H') : PoE K z F io H e st σ r v H' := by
  obtain ⟨F2, io2, x, c, q⟩ := h
  have gr : ∀ a u, H a = some u → H' a = some u := fun a u k => x.frm a u k (by simp)
  have s' := s.grow gr
  refine ⟨F, io, ext_grow gr, s', ?_⟩
  unfold VR
  rcases tight_imm ht with hi | ⟨hw, hi⟩
  · split at q
    · obtain ⟨a, _, ⟨_, _, e1⟩, _⟩ := q
      rw [e1.notImm] at hi; cases hi
    · rename_i hw
      rw [if_neg hw]
      exact q.imm (fun a xs k => k) hi
  · rw [if_pos hw] at q ⊢
    obtain ⟨a, rfl, ⟨u, q1, q2⟩, n1, n2, n3⟩ := q
    refine ⟨a, rfl, ⟨u, q1, q2.imm (fun a xs k => k) hi⟩, (s.cel.free n3).1, (s.cel.free n3).2, s.h0 n3, fun i d' g1 g2 => ?_⟩
    obtain ⟨b, g3, g4, _⟩ := s.ow i d' g1
    rw [g2] at g3
    cases g3
    obtain ⟨u, q⟩ := g4.there
    rw [n3] at q; cases q
theorem rep_atom {d : D} {v : V} (h : Rep K H F io v d) (ha : atomB d = true) : Rep K H' F' io' v d := by
  cases d <;> simp only [atomB] at ha <;> try contradiction
  · cases h; exact .non
  · cases h; exact .bl _
  · cases h; exact .int _
  · cases h; exact .str _
theorem repL_atom : ∀ {ds : List D} {vs : List V}, RepL K H F io vs ds → ds.all atomB = true → RepL K H' F' io' vs ds
  | [], _, h, _ => by cases h; exact .nil
  | d :: ds, _, h, ha => by
    rw [List.all_cons, Bool.and_eq_true] at ha
    cases h with | cons a b => exact .cons (rep_atom a ha.1) (repL_atom b ha.2)
/-- an error of scalars out of a pure call -/
theorem XR.atoms {mg : Str → Option Value} {x : Xc} {cls : Value} {d : Option Addr} (h : XR K mg H F io x cls d) (ha : x.fs.all (fun p => atomB p.2) = true) (hf : ∀ a, F' a → F a) : XR K mg H F' io' x cls d := by
  obtain ⟨C, dd, fs, h1, h2, h3, h4, h5, h6, h7⟩ := h
  exact ⟨C, dd, fs, h1, h2, h3, fun b hb => ⟨(h4 b hb).1, fun q => (h4 b hb).2 (hf _ q)⟩, h5, repL_atom h6 (by rw [List.all_map]; exact ha), h7⟩
theorem omap_rep {g : D → Option D} (hg : ∀ d d' v, g d = some d' → Rep K H F io v d → Rep K H F io' v d') : ∀ {xs ys : List D} {vs : List V}, omap g xs = some ys → RepL K H F io vs xs → RepL K H F io' vs ys
  | [], ys, vs, h, r => by cases h; cases r; exact .nil
  | x :: xs, ys, vs, h, r => by
    cases r with
    | cons a b =>
      simp only [omap, Option.bind_eq_some_iff, Option.map_eq_some_iff] at h
      obtain ⟨y, h1, zs, h2, rfl⟩ := h
      exact .cons (hg _ _ _ h1 a) (omap_rep hg h2 b)
theorem omapK_rep {g : D → Option D} (hg : ∀ d d' v, g d = some d' → Rep K H F io v d → Rep K H F io' v d') : ∀ {xs ys : List (D × D)} {vs : List (L2.Key × V)}, omapK g xs = some ys → RepK K H F io vs xs → RepK K H F io' vs ys
  | [], ys, vs, h, r => by cases h; cases r; exact .nil
  | (c, x) :: xs, ys, vs, h, r => by
    cases r with
    | cons e a b =>
      simp only [omapK, Option.bind_eq_some_iff, Option.map_eq_some_iff] at h
      obtain ⟨y, h1, zs, h2, rfl⟩ := h
      exact .cons e (hg _ _ _ h1 a) (omapK_rep hg h2 b)
theorem omapF_rep {g : D → Option D} (hg : ∀ d d' v, g d = some d' → Rep K H F io v d → Rep K H F io' v d') : ∀ {xs ys : List (Str × D)} {vs : List (Str × V)}, omapF g xs = some ys → RepF K H F io vs xs → RepF K H F io' vs ys
  | [], ys, vs, h, r => by cases h; cases r; exact .nil
  | (c, x) :: xs, ys, vs, h, r => by
    cases r with
    | cons e a b =>
      simp only [omapF, Option.bind_eq_some_iff, Option.map_eq_some_iff] at h
      obtain ⟨y, h1, zs, h2, rfl⟩ := h
      exact .cons e (hg _ _ _ h1 a) (omapF_rep hg h2 b)
theorem rsv_rep (c : ∀ (n : Nat) (a : Addr) (d : D), io[n]? = some a → st[n]? = some d → Ob K H F io a d) (hF : ∀ a ∈ io, F a) (io' : List Addr) : ∀ (k : Nat) (d d' : D) (v : V), rsv k st d = some d' → Rep K H F io v d → Rep K H F io' v d'
  | 0, _, _, _, h, _ => by cases h
  | k + 1, d, d', v, h, r => by
    cases d with
    | tup xs =>
      simp only [rsv, Option.map_eq_some_iff] at h
      obtain ⟨ys, h1, rfl⟩ := h
      cases r with
      | tup s l => exact .tup s (omap_rep (rsv_rep c hF io' k) h1 l)
    | lst xs =>
      simp only [rsv, Option.map_eq_some_iff] at h
      obtain ⟨ys, h1, rfl⟩ := h
      cases r with
      | lst s l => exact .lst s (omap_rep (rsv_rep c hF io' k) h1 l)
    | dic xs =>
      simp only [rsv, Option.map_eq_some_iff] at h
      obtain ⟨ys, h1, rfl⟩ := h
      cases r with
      | dic f s l => exact .dic f s (omapK_rep (rsv_rep c hF io' k) h1 l)
    | obj cc xs =>
      simp only [rsv, Option.map_eq_some_iff] at h
      obtain ⟨ys, h1, rfl⟩ := h
      cases r with
      | obj f e k2 l => exact .obj f e k2 (omapF_rep (rsv_rep c hF io' k) h1 l)
    | loc n =>
      simp only [rsv] at h
      split at h <;> try cases h
      rename_i d1 hd
      cases r with
      | @loc a _ hio =>
        obtain ⟨u, hu, hr⟩ := c n a d1 hio hd
        exact rsv_rep c hF io' k d1 d' _ h (hr.rep (hF a (List.mem_iff_getElem?.mpr ⟨n, hio⟩)) hu)
    | none => cases h; cases r; exact .non
    | bool b => cases h; cases r; exact .bl _
    | int b => cases h; cases r; exact .int _
    | str b => cases h; cases r; exact .str _
    | ty b => cases h; cases r; exact .ty _
/-- behind a pure call whose answer holds objects of its own store: they change no more -/
theorem SR.callV {d d' : D} {w : Bool} {v : V} (s : SR K z F io e st σ H) (hr : rsv 8 st' d = some d') (h : PoC K F [] H st' (d, w) v H') : PoE K z F io H e st σ (d', false) v H' := by
  obtain ⟨F2, io2, x, c, q⟩ := h
  have gr : ∀ a u, H a = some u → H' a = some u := fun a u k => x.frm a u k (by simp)
  have s1 := s.grow gr
  have hio : ∀ a ∈ io2, H a = none := fun a ha => by
    obtain ⟨l, e1, e2⟩ := x.io
    rw [e1, List.nil_append] at ha
    exact e2 a ha
  -- the value, in a zone that holds it
  obtain ⟨F3, f23, f3, c3, rv⟩ : ∃ F3 : Zn, (∀ a, F2 a → F3 a) ∧ (∀ a, F3 a → F2 a ∨ (H a = none ∧ ∃ u, H' a = some u)) ∧ (∀ a ∈ io2, F3 a) ∧ Rep K H' F3 io2 v d := by
    have up : ∀ F3 : Zn, (∀ a, F2 a → F3 a) → Ext F2 io2 H' F3 io2 H' := fun F3 h => ⟨h, fun _ _ _ _ r => r, fun _ _ r => r, fun _ _ _ _ _ r => r, [], by simp⟩
    have there : ∀ a ∈ io2, ∃ u, H' a = some u := fun a hm => by
      obtain ⟨n, hn, e⟩ := List.mem_iff_getElem.mp hm
      have h1 : io2[n]? = some a := by rw [List.getElem?_eq_getElem hn, e]
      have hn2 : n < st'.length := by rw [← c.len]; exact hn
      exact (c.cell n a st'[n] h1 (List.getElem?_eq_getElem hn2)).there
    split at q
    · obtain ⟨a, rfl, ho, n1, n2, n3⟩ := q
      refine ⟨fun b => F2 b ∨ b ∈ io2 ∨ b = a, fun b h => .inl h, fun b h => ?_, fun b h => .inr (.inl h), ?_⟩
      · rcases h with h | h | h
        · exact .inl h
        · exact .inr ⟨hio b h, there b h⟩
        · subst h; exact .inr ⟨n3, ho.there⟩
      · obtain ⟨u, h1, h2⟩ := ho
        exact (h2.ext (up (fun b => F2 b ∨ b ∈ io2 ∨ b = a) fun b h => .inl h)).rep (.inr (.inr rfl)) h1
    · refine ⟨fun b => F2 b ∨ b ∈ io2, fun b h => .inl h, fun b h => ?_, fun b h => .inr h, ?_⟩
      · rcases h with h | h
        · exact .inl h
        · exact .inr ⟨hio b h, there b h⟩
      · exact q.ext (up _ fun b h => .inl h)
  have y2 : Ext F2 io2 H' F3 io2 H' := ⟨f23, fun _ _ _ _ r => r, fun _ _ r => r, fun _ _ _ _ _ r => r, [], by simp⟩
  have x2 : Ext F io H' F3 io H' := ⟨fun a h => f23 a (x.ff a h), fun _ _ _ _ r => r, fun _ _ r => r, fun _ _ _ _ _ r => r, [], by simp⟩
  have new3 : ∀ a, F3 a → F a ∨ H a = none := fun a h => (f3 a h).elim (x.new a) fun h => .inr h.1
  have old : ∀ {a : Addr}, (∃ u, H a = some u) → ¬ F a → ¬ F3 a := fun ⟨u, hu⟩ n q => by
    rcases new3 _ q with z | z
    · exact n z
    · rw [hu] at z; cases z
  have celOld : ∀ {a : Addr}, a ∈ io → ∃ u, H a = some u := fun {a} hm => by
    obtain ⟨n, hn, e⟩ := List.mem_iff_getElem.mp hm
    have h1 : io[n]? = some a := by rw [List.getElem?_eq_getElem hn, e]
    have hn2 : n < st.length := by rw [← s.cel.len]; exact hn
    exact (s.cel.cell n a st[n] h1 (List.getElem?_eq_getElem hn2)).there
  have s' : SR K z F3 io e st σ H' := ⟨⟨fun a h => (f3 a h).elim (c.dom a) fun h => h.2, s1.cel.len, s1.cel.nd, fun a hm => old (celOld hm) (s.cel.nof a hm), fun n b d h1 h2 => (s1.cel.cell n b d h1 h2).ext x2 rfl⟩, s1.el,
    fun i d q => let ⟨v, h1, h2⟩ := s1.fr i d q; ⟨v, h1, h2.ext x2⟩, fun i d q => by
      obtain ⟨a, h1, h2, h3, h4, h5⟩ := s.ow i d q
      obtain ⟨a', g1, g2, _⟩ := s1.ow i d q
      rw [h1] at g1; cases g1
      exact ⟨a, h1, g2.ext x2 rfl, old h2.there h3, h4, h5⟩, s1.sep, s1.frm, s1.pre, fun a ha => (new3 a ha).elim (s.fnw a) fun q => .inr (s.h0 q), s.xc⟩
  refine ⟨F3, io, (ext_grow gr).trans x2, s', ?_⟩
  show Rep K H' F3 io v d'
  exact rsv_rep (fun n a d h1 h2 => (c.cell n a d h1 h2).ext y2 rfl) c3 io 8 d d' v hr rv
/-- behind another pure call -/
theorem SR.callN {r : DB} {v : V} (s : SR K z F io e st σ H) (hn : r.1.nol = true) (h : PoC K F [] H st' r v H') : PoE K z F io H e st σ r v H' := by
  obtain ⟨F2, io2, x, c, q⟩ := h
  have gr : ∀ a u, H a = some u → H' a = some u := fun a u k => x.frm a u k (by simp)
  have s1 := s.grow gr
  -- the zone grows
  have x2 : Ext F io H' F2 io H' := ⟨x.ff, fun _ _ _ _ r => r, fun _ _ r => r, fun _ _ _ _ _ r => r, [], by simp⟩
  have old : ∀ {a : Addr}, (∃ u, H a = some u) → ¬ F a → ¬ F2 a := fun ⟨u, hu⟩ n q => by
    rcases x.new _ q with z | z
    · exact n z
    · rw [hu] at z; cases z
  have celOld : ∀ {a : Addr}, a ∈ io → ∃ u, H a = some u := fun {a} hm => by
    obtain ⟨n, hn, e⟩ := List.mem_iff_getElem.mp hm
    have h1 : io[n]? = some a := by rw [List.getElem?_eq_getElem hn, e]
    have hn2 : n < st.length := by rw [← s.cel.len]; exact hn
    exact (s.cel.cell n a st[n] h1 (List.getElem?_eq_getElem hn2)).there
  have s' : SR K z F2 io e st σ H' := ⟨⟨c.dom, s1.cel.len, s1.cel.nd, fun a hm => old (celOld hm) (s.cel.nof a hm), fun n b d h1 h2 => (s1.cel.cell n b d h1 h2).ext x2 rfl⟩, s1.el,
    fun i d q => let ⟨v, h1, h2⟩ := s1.fr i d q; ⟨v, h1, h2.ext x2⟩, fun i d q => by
      obtain ⟨a, h1, h2, h3, h4, h5⟩ := s.ow i d q
      obtain ⟨a', g1, g2, _⟩ := s1.ow i d q
      rw [h1] at g1; cases g1
      exact ⟨a, h1, g2.ext x2 rfl, old h2.there h3, h4, h5⟩, s1.sep, s1.frm, s1.pre, fun a ha => (x.new a ha).elim (s.fnw a) fun q => .inr (s.h0 q), s.xc⟩
  refine ⟨F2, io, (ext_grow gr).trans x2, s', ?_⟩
  unfold VR
  split at q
  · rename_i hw
    rw [if_pos hw]
    obtain ⟨a, rfl, ⟨u, q1, q2⟩, n1, n2, n3⟩ := q
    refine ⟨a, rfl, ⟨u, q1, q2.nol io hn⟩, n1, (s.cel.free n3).2, s.h0 n3, fun i d' g1 g2 => ?_⟩
    obtain ⟨b, g3, g4, _⟩ := s.ow i d' g1
    rw [g2] at g3
    cases g3
    obtain ⟨u, q⟩ := g4.there
    rw [n3] at q; cases q
  · rename_i hw
    rw [if_neg hw]
    exact q.nol io hn
theorem Cel.pure (c : Cel K F io st H) : Cel K F [] [] H := ⟨c.dom, rfl, List.nodup_nil, fun _ h => (by simp at h), fun n a d h => (by simp at h)⟩
end

/-! ## the rules -/
/-- a test's reading -/
def PoS (K : PySem.W.Frag) (z : Zo) (F : Zn) (io : List Addr) (H : Hp) (e' : En) (st' : Sto) (σ : L2.St) (H' : Hp) : Prop := ∃ F' io', Ext F io H F' io' H' ∧ SR K z F' io' e' st' σ H'
def bRes (r : R DB) (P : Bool → En → Sto → Prop) (E : Xc → En → Sto → Prop) : Prop := Res r (fun r e s => ∃ b, r.1 = .bool b ∧ P b e s) E
def tpt (p : Px) (c : E) : TT := fun σ H Q => ∃ F io e st, SR p.K p.z F io e st σ H ∧
  bRes (ev p.B p.G c e st) (fun b e' st' => ∀ H', PoS p.K p.z F io H e' st' σ H' → Q b H') (XW p F io H σ)
structure EOK (X : Cx) (p : Px) (ex : Expr) (c : E) : Prop where
  pe : PE X ex (tev p c)
  par : PE X ex (tar p c)
  pt : PT X ex (tpt p c)
  ns : ∀ es, starEach (ex :: es) X.env = (false, eval ex X.env) :: starEach es X.env
  pm : ∀ op, behindInMarks op ex = false
  nsl : ∀ lo hi st q, ex ≠ .Slice lo hi st q
section
variable {p : Px} {X : Cx} {es : Es} {c : E} {ex a b : Expr} {l : List Expr} {pos : Pos} {F F' : Zn} {io io' : List Addr} {H H' : Hp} {e : En} {st : Sto} {σ : L2.St}
theorem PT.imp {t t' : TT} (h : PT X ex t) (i : ∀ σ H Q, t' σ H Q → t σ H Q) : PT X ex t' := ⟨fun pins s σ H Q I q => h.run pins s σ H Q I (i _ _ _ q)⟩
theorem PoE.poS {r : DB} {e' : En} {st' : Sto} {v : V} (h : PoE p.K p.z F io H e' st' σ r v H') : PoS p.K p.z F io H e' st' σ H' := let ⟨F', io', y, s, _⟩ := h; ⟨F', io', y, s⟩
theorem PoE.bl {b : Bool} {w : Bool} {e' : En} {st' : Sto} {v : V} (h : PoE p.K p.z F io H e' st' σ (.bool b, w) v H') : v = .bl b := by
  obtain ⟨_, _, _, _, q⟩ := h.frz
  cases q; rfl
/-- a test of a value -/
theorem pt_of (h : PE X ex (tev p c)) (he : ∀ whole, isTrue ex X.env whole = (do let v ← whole; standAt ex.pos; holding [v] (truthy v))) : PT X ex (tpt p c) := by
  refine PT.imp (pt_val h he) fun σ H Q ⟨F, io, e, st, s, q⟩ => ?_
  refine ⟨F, io, e, st, s, Res.mono q (fun r e' st' ⟨b, hb, k⟩ v H' po => ?_) fun _ _ _ x => x⟩
  obtain ⟨d, w⟩ := r
  cases hb
  exact ⟨b, po.bl, k H' po.poS⟩
theorem tar_eq (h : ∀ i, c ≠ .var i) : tar p c = tev p c := by
  unfold tar; cases c <;> first | rfl | exact absurd rfl (h _)
/-- an expression of a common form -/
theorem EOK.mk1 (h : PE X ex (tev p c)) (hv : ∀ i, c ≠ .var i) (he : ∀ whole, isTrue ex X.env whole = (do let v ← whole; standAt ex.pos; holding [v] (truthy v))) (ns : ∀ es, starEach (ex :: es) X.env = (false, eval ex X.env) :: starEach es X.env)
    (pm : ∀ op, behindInMarks op ex = false) (nsl : ∀ lo hi st q, ex ≠ .Slice lo hi st q) : EOK X p ex c := ⟨h, by rw [tar_eq hv]; exact h, pt_of h he, ns, pm, nsl⟩
theorem EOK.px (h : EOK X p ex c) : PlainIx ex := by
  have := h.nsl
  intro o i
  cases ex <;> first | rfl | exact absurd rfl (this _ _ _ _)

theorem e_const {ex : Expr} {c : E} {v : V} {d : D} (hp : PE X ex (tC v)) (hc : ∀ e s, ev p.B p.G c e s = .ok (d, false) e s) (hr : ∀ K H F io, Rep K H F io v d) : PE X ex (tev p c) := by
  refine PE.imp hp fun σ H Q ⟨F, io, e, st, s, h⟩ => ?_
  rw [hc] at h
  exact h v H (NV.po s (.val (hr ..)))
theorem e_var {i : Nat} {x : Str} (hN : X.N[i]? = some x) (hv : Vis X.env.scope x) (hd : (x == ("__debug__" : Str)) = false) (hcd : (x == ("__classdict__" : Str)) = false) : EOK X p (.Name x pos) (.var i) := by
  have h0 : PE X (.Name x pos) (tVar i) := pe_var hN hv hd hcd
  have h1 : PE X (.Name x pos) (tev p (.var i)) := by
    refine PE.imp h0 fun σ H Q ⟨F, io, e, st, s, h⟩ => ?_
    rw [ev] at h
    split at h
    · rename_i d hd
      obtain ⟨v, q1, q2⟩ := s.fr i d hd
      exact ⟨v, q1, h v H ⟨F, io, .refl .., s, q2⟩⟩
    · rename_i d hd
      obtain ⟨F', y, s'⟩ := s.fz1 i
      have e1 : fz1 e i = e.set i (.fr d) := by unfold fz1; rw [hd]
      rw [e1] at s'
      obtain ⟨v, q1, q2⟩ := s'.fr i d (List.getElem?_set_self (List.getElem?_eq_some_iff.mp hd).1)
      exact ⟨v, q1, h v H ⟨F', io, y, s', q2⟩⟩
    · exact h.elim
  exact ⟨h1, h0, pt_of h1 fun _ => rfl, fun _ => rfl, fun op => by cases op <;> rfl, fun _ _ _ _ z => by cases z⟩
theorem SR.drop {K : PySem.W.Frag} {z : Zo} (s : SR K z F io e st σ H) (i : Nat) : SR K z F io (e.set i .un) st σ H := by
  have key : ∀ (j : Nat) (sl : Sl), sl ≠ .un → (e.set i .un)[j]? = some sl → j ≠ i ∧ e[j]? = some sl := fun j sl hn h => by
    by_cases hij : i = j
    · subst hij
      rw [List.getElem?_set_self'] at h
      cases q : e[i]? with
      | none => rw [q] at h; cases h
      | some y => rw [q] at h; cases h; exact absurd rfl hn
    · rw [List.getElem?_set_ne hij] at h
      exact ⟨fun q => hij q.symm, h⟩
  refine ⟨s.cel, by rw [List.length_set]; exact s.el, fun j d h => s.fr j d (key j _ (by simp) h).2, fun j d h => s.ow j d (key j _ (by simp) h).2, fun j l d d' a h h' => s.sep j l d d' a (key j _ (by simp) h).2 (key l _ (by simp) h').2, s.frm, s.pre, s.fnw, fun j x h => s.xc j x (key j _ (by simp) h).2⟩
/-- a name's value moved out -/
theorem e_mov {i : Nat} {x : Str} (hN : X.N[i]? = some x) (hv : Vis X.env.scope x) (hd : (x == ("__debug__" : Str)) = false) (hcd : (x == ("__classdict__" : Str)) = false) : PE X (.Name x pos) (tev p (.mov i)) := by
  have h0 : PE X (.Name x pos) (tVar i) := pe_var hN hv hd hcd
  refine PE.imp h0 fun σ H Q ⟨F, io, e, st, s, h⟩ => ?_
  rw [ev] at h
  split at h
  · rename_i d hd
    obtain ⟨v, q1, q2⟩ := s.fr i d hd
    exact ⟨v, q1, h v H ⟨F, io, .refl .., s, q2⟩⟩
  · rename_i d hd
    obtain ⟨a, q1, q2, n1, n2, n3⟩ := s.ow i d hd
    refine ⟨.ref a, q1, h (.ref a) H ⟨F, io, .refl .., s.drop i, ?_⟩⟩
    refine ⟨a, rfl, q2, n1, n2, n3, fun j d' hj hs => ?_⟩
    by_cases hij : i = j
    · subst hij
      rw [List.getElem?_set_self'] at hj
      cases q : e[i]? with
      | none => rw [q] at hj; cases hj
      | some y => rw [q] at hj; cases hj
    · rw [List.getElem?_set_ne hij] at hj
      exact hij (s.sep i j d d' a hd hj q1 hs)
  · exact h.elim
theorem e_gl {x : Str} (S : Sok p X) (hg : Gl X x) (hd : (x == ("__debug__" : Str)) = false) : PE X (.Name x pos) (tev p (.gl x)) := by
  cases hx : (p.G x).bind noDic with
  | none =>
    refine ⟨fun pins s σ H Q I ⟨F, io, e, st, _, h⟩ => ?_⟩
    rw [ev, hx] at h
    exact h.elim
  | some d =>
    have hc : ∀ e s, ev p.B p.G (.gl x) e s = .ok d e s := fun e s => by rw [ev, hx]; rfl
    simp only [Option.bind_eq_some_iff] at hx
    obtain ⟨d0, h0, h1⟩ := hx
    have hd0 : d = (d0, false) := by cases d0 <;> simp [noDic] at h1 <;> exact h1.symm
    subst hd0
    rcases S.glb x d0 h0 with ⟨kvs, rfl, _⟩ | ⟨_, ⟨u, v, h1, h2, h3⟩ | ⟨h1, h0, u, v, h2, h3, h4⟩⟩
    · simp [noDic] at h1
    · refine PE.imp (pe_glob hg h1 h2 hd) fun σ H Q ⟨F, io, e, st, s, h⟩ => ?_
      rw [hc] at h
      exact h v H (NV.po s (.val (S.K ▸ h3 ..)))
    · refine PE.imp (pe_bltn hg h1 h2 h3 h0 hd) fun σ H Q ⟨F, io, e, st, s, h⟩ => ?_
      rw [hc] at h
      exact h v H (NV.po s (.val (S.K ▸ h4 ..)))
theorem e_neg (h : PE X a (tev p c)) : PE X (.UnaryOp .USub a pos) (tev p (.neg c)) := by
  refine PE.imp (pe_un un_neg h) fun σ H Q ⟨F, io, e, st, s, h⟩ => ?_
  rw [ev] at h
  refine ⟨F, io, e, st, s, h.of_bind.mono (fun r e' st' k v H' po => ?_) fun _ _ _ x => x⟩
  obtain ⟨F', io', y, s', q⟩ := po.frz
  obtain ⟨d, w⟩ := r
  cases d <;> try exact k.elim
  cases q
  exact ⟨_, rfl, k _ _ (PoE.ext y (NV.po s' (.int _)))⟩
theorem Res.of_iff {d : DB} {t f : R DB} {P : DB → En → Sto → Prop} {E : Xc → En → Sto → Prop} (h : Res (iff d t f) P E) : (d.1 = .bool true ∧ Res t P E) ∨ (d.1 = .bool false ∧ Res f P E) := by
  unfold iff at h
  split at h
  · rename_i e; exact .inl ⟨e, h⟩
  · rename_i e; exact .inr ⟨e, h⟩
  · exact h.elim
theorem e_not (h : PE X a (tev p c)) : PE X (.UnaryOp .Not a pos) (tev p (.not c)) := by
  refine PE.imp (pe_not h) fun σ H Q ⟨F, io, e, st, s, h⟩ => ?_
  rw [ev] at h
  refine ⟨F, io, e, st, s, h.of_bind.mono (fun r e' st' k v H' po => ?_) fun _ _ _ x => x⟩
  obtain ⟨d, w⟩ := r
  obtain ⟨F', io', y, s', _⟩ := id po
  rcases Res.of_iff k with ⟨h1, k⟩ | ⟨h1, k⟩ <;> cases h1
  · exact ⟨true, po.bl, k _ _ (PoE.ext y (NV.po s' (.bl _)))⟩
  · exact ⟨false, po.bl, k _ _ (PoE.ext y (NV.po s' (.bl _)))⟩
theorem t_not (h : PT X a (tpt p c)) : PT X (.UnaryOp .Not a pos) (tpt p (.not c)) := by
  refine PT.imp (pt_not h) fun σ H Q ⟨F, io, e, st, s, h⟩ => ?_
  unfold bRes at h
  rw [ev] at h
  refine ⟨F, io, e, st, s, h.of_bind.mono (fun r e' st' k => ?_) fun _ _ _ x => x⟩
  rcases Res.of_iff k with ⟨h1, k⟩ | ⟨h1, k⟩
  · obtain ⟨b, hb, k⟩ := k; cases hb; exact ⟨true, h1, fun H' po => k H' po⟩
  · obtain ⟨b, hb, k⟩ := k; cases hb; exact ⟨false, h1, fun H' po => k H' po⟩
theorem XW.ext' {x : Xc} {e' : En} {st' : Sto} {e2 : En} {st2 : Sto} (h : PoS p.K p.z F io H e2 st2 σ H') : ∃ F' io', SR p.K p.z F' io' e2 st2 σ H' ∧ Ext F io H F' io' H' := let ⟨F', io', y, s⟩ := h; ⟨F', io', s, y⟩
/-- and, or -/
def tevA (p : Px) (b : Bool) (c : Es) : TE := fun σ H Q => ∃ F io e st, SR p.K p.z F io e st σ H ∧
  Res (if b then evAnd p.B p.G c e st else evOr p.B p.G c e st) (fun r e' st' => ∀ v H', PoE p.K p.z F io H e' st' σ r v H' → Q v H') (XW p F io H σ)
def tptA (p : Px) (b : Bool) (c : Es) : TT := fun σ H Q => ∃ F io e st, SR p.K p.z F io e st σ H ∧
  bRes (if b then evAnd p.B p.G c e st else evOr p.B p.G c e st) (fun b e' st' => ∀ H', PoS p.K p.z F io H e' st' σ H' → Q b H') (XW p F io H σ)
inductive EsOK (X : Cx) (p : Px) : Es → List Expr → Prop
  | nil : EsOK X p .nil []
  | cons {c : E} {r : Es} {ex : Expr} {l : List Expr} : EOK X p ex c → EsOK X p r l → EsOK X p (.cons c r) (ex :: l)
theorem EsOK.pes (h : EsOK X p es l) : PEs X p es l := by
  induction h with
  | nil => exact .nil
  | cons a _ ih => exact .cons a.par a.ns ih
theorem e_and : ∀ {l : List Expr} {c : Es} {a : Expr}, EsOK X p c (a :: l) → PE X (.BoolOp .And (a :: l) pos) (tevA p true c)
  | [], _, _, .cons h .nil => PE.imp (pe_one h.pe) fun σ H Q ⟨F, io, e, st, s, k⟩ => ⟨F, io, e, st, s, by simpa [evAnd] using k⟩
  | b :: l, _, a, .cons h (.cons (c := c2) (r := r2) h2 hr) => by
    refine PE.imp (pe_and h.pe (e_and (.cons h2 hr))) fun σ H Q ⟨F, io, e, st, s, k⟩ => ?_
    rw [if_pos rfl, evAnd] at k
    refine ⟨F, io, e, st, s, k.of_bind.mono (fun r e' st' k v H' po => ?_) fun _ _ _ x => x⟩
    obtain ⟨d, w⟩ := r
    obtain ⟨F', io', y, s', _⟩ := id po
    rcases Res.of_iff k with ⟨h1, k⟩ | ⟨h1, k⟩ <;> cases h1
    · refine ⟨true, po.bl, ?_⟩
      rw [if_pos rfl]
      exact ⟨F', io', e', st', s', by rw [if_pos rfl]; exact k.mono (fun _ _ _ q v H2 po2 => q v H2 (PoE.ext y po2)) fun _ _ _ x => XW.ext y x⟩
    · refine ⟨false, po.bl, ?_⟩
      rw [if_neg (by decide)]
      exact k _ _ (PoE.ext y (NV.po s' (.bl _)))
theorem e_or : ∀ {l : List Expr} {c : Es} {a : Expr}, EsOK X p c (a :: l) → PE X (.BoolOp .Or (a :: l) pos) (tevA p false c)
  | [], _, _, .cons h .nil => PE.imp (pe_one h.pe) fun σ H Q ⟨F, io, e, st, s, k⟩ => ⟨F, io, e, st, s, by simpa [evOr] using k⟩
  | b :: l, _, a, .cons h (.cons (c := c2) (r := r2) h2 hr) => by
    refine PE.imp (pe_or h.pe (e_or (.cons h2 hr))) fun σ H Q ⟨F, io, e, st, s, k⟩ => ?_
    rw [if_neg (by decide), evOr] at k
    refine ⟨F, io, e, st, s, k.of_bind.mono (fun r e' st' k v H' po => ?_) fun _ _ _ x => x⟩
    obtain ⟨d, w⟩ := r
    obtain ⟨F', io', y, s', _⟩ := id po
    rcases Res.of_iff k with ⟨h1, k⟩ | ⟨h1, k⟩ <;> cases h1
    · refine ⟨true, po.bl, ?_⟩
      rw [if_pos rfl]
      exact k _ _ (PoE.ext y (NV.po s' (.bl _)))
    · refine ⟨false, po.bl, ?_⟩
      rw [if_neg (by decide)]
      exact ⟨F', io', e', st', s', by rw [if_neg (by decide)]; exact k.mono (fun _ _ _ q v H2 po2 => q v H2 (PoE.ext y po2)) fun _ _ _ x => XW.ext y x⟩
theorem PoS.ext (y : Ext F io H F' io' H') {e' : En} {st' : Sto} {H2 : Hp} (h : PoS p.K p.z F' io' H' e' st' σ H2) : PoS p.K p.z F io H e' st' σ H2 := let ⟨F2, io2, y2, s⟩ := h; ⟨F2, io2, y.trans y2, s⟩
theorem t_and : ∀ {l : List Expr} {c : Es} {a : Expr}, EsOK X p c (a :: l) → PW X (.BoolOp .And (a :: l) pos) (tptA p true c)
  | [], _, _, .cons h .nil => pw_and1 (PT.imp h.pt fun σ H Q ⟨F, io, e, st, s, k⟩ => ⟨F, io, e, st, s, by simpa [evAnd] using k⟩)
  | b :: l, _, a, .cons h (.cons (c := c2) (r := r2) h2 hr) => by
    have := pw_and (pos := pos) h.pt (t_and (.cons h2 hr))
    refine ⟨fun whole pins s σ H Q I q => this.run whole pins s σ H Q I ?_⟩
    obtain ⟨F, io, e, st, s, k⟩ := q
    unfold bRes at k
    rw [if_pos rfl, evAnd] at k
    refine ⟨F, io, e, st, s, k.of_bind.mono (fun r e' st' k => ?_) fun _ _ _ x => x⟩
    rcases Res.of_iff k with ⟨h1, k⟩ | ⟨h1, k⟩
    · refine ⟨true, h1, fun H' po => ?_⟩
      obtain ⟨F', io', y, s'⟩ := po
      rw [if_pos rfl]
      exact ⟨F', io', e', st', s', by rw [if_pos rfl]; exact k.mono (fun _ _ _ ⟨b, hb, q⟩ => ⟨b, hb, fun H2 po2 => q H2 (PoS.ext y po2)⟩) fun _ _ _ x => XW.ext y x⟩
    · obtain ⟨b, hb, k⟩ := k
      cases hb
      exact ⟨false, h1, fun H' po => iteF (k H' po)⟩
theorem t_or : ∀ {l : List Expr} {c : Es} {a : Expr}, EsOK X p c (a :: l) → PW X (.BoolOp .Or (a :: l) pos) (tptA p false c)
  | [], _, _, .cons h .nil => pw_or1 (PT.imp h.pt fun σ H Q ⟨F, io, e, st, s, k⟩ => ⟨F, io, e, st, s, by simpa [evOr] using k⟩)
  | b :: l, _, a, .cons h (.cons (c := c2) (r := r2) h2 hr) => by
    have := pw_or (pos := pos) h.pt (t_or (.cons h2 hr))
    refine ⟨fun whole pins s σ H Q I q => this.run whole pins s σ H Q I ?_⟩
    obtain ⟨F, io, e, st, s, k⟩ := q
    unfold bRes at k
    rw [if_neg (by decide), evOr] at k
    refine ⟨F, io, e, st, s, k.of_bind.mono (fun r e' st' k => ?_) fun _ _ _ x => x⟩
    rcases Res.of_iff k with ⟨h1, k⟩ | ⟨h1, k⟩
    · obtain ⟨b, hb, k⟩ := k
      cases hb
      exact ⟨true, h1, fun H' po => iteT (k H' po)⟩
    · refine ⟨false, h1, fun H' po => ?_⟩
      obtain ⟨F', io', y, s'⟩ := po
      rw [if_neg (by decide)]
      exact ⟨F', io', e', st', s', by rw [if_neg (by decide)]; exact k.mono (fun _ _ _ ⟨b, hb, q⟩ => ⟨b, hb, fun H2 po2 => q H2 (PoS.ext y po2)⟩) fun _ _ _ x => XW.ext y x⟩
theorem e_ite {c1 c2 c3 : E} {t : Expr} (ht : EOK X p t c1) (ha : EOK X p a c2) (hb : EOK X p b c3) : PE X (.IfExp t a b pos) (tev p (.ite c1 c2 c3)) := by
  refine PE.imp (pe_ifExp ht.pt ha.pe hb.pe) fun σ H Q ⟨F, io, e, st, s, k⟩ => ?_
  rw [ev] at k
  refine ⟨F, io, e, st, s, k.of_bind.mono (fun r e' st' k => ?_) fun _ _ _ x => x⟩
  rcases Res.of_iff k with ⟨h1, k⟩ | ⟨h1, k⟩
  · refine ⟨true, h1, fun H' po => ?_⟩
    obtain ⟨F', io', y, s'⟩ := po
    rw [if_pos rfl]
    exact ⟨F', io', e', st', s', k.mono (fun _ _ _ q v H2 po2 => q v H2 (PoE.ext y po2)) fun _ _ _ x => XW.ext y x⟩
  · refine ⟨false, h1, fun H' po => ?_⟩
    obtain ⟨F', io', y, s'⟩ := po
    rw [if_neg (by decide)]
    exact ⟨F', io', e', st', s', k.mono (fun _ _ _ q v H2 po2 => q v H2 (PoE.ext y po2)) fun _ _ _ x => XW.ext y x⟩
theorem pt_ifExp {t : Expr} {tc ta tb : TT} (ht : PT X t tc) (ha : PT X a ta) (hb : PT X b tb) : PT X (.IfExp t a b pos) (fun σ H Q => tc σ H fun c H1 => if c = true then ta σ H1 Q else tb σ H1 Q) := by
  refine ⟨fun pins s σ H Q I h => ?_⟩
  refine isTrue_IfExp (thn (ht.run pins s σ H _ I h) fun d s1 ⟨H1, I1, q1⟩ => ?_)
  cases d with
  | true => exact ha.run pins s1 σ H1 Q I1 q1
  | false => exact hb.run pins s1 σ H1 Q I1 q1
theorem t_ite {c1 c2 c3 : E} {t : Expr} (ht : EOK X p t c1) (ha : EOK X p a c2) (hb : EOK X p b c3) : PT X (.IfExp t a b pos) (tpt p (.ite c1 c2 c3)) := by
  refine PT.imp (pt_ifExp ht.pt ha.pt hb.pt) fun σ H Q ⟨F, io, e, st, s, k⟩ => ?_
  unfold bRes at k
  rw [ev] at k
  refine ⟨F, io, e, st, s, k.of_bind.mono (fun r e' st' k => ?_) fun _ _ _ x => x⟩
  rcases Res.of_iff k with ⟨h1, k⟩ | ⟨h1, k⟩
  · refine ⟨true, h1, fun H' po => ?_⟩
    obtain ⟨F', io', y, s'⟩ := po
    rw [if_pos rfl]
    exact ⟨F', io', e', st', s', k.mono (fun _ _ _ ⟨b, hb, q⟩ => ⟨b, hb, fun H2 po2 => q H2 (PoS.ext y po2)⟩) fun _ _ _ x => XW.ext y x⟩
  · refine ⟨false, h1, fun H' po => ?_⟩
    obtain ⟨F', io', y, s'⟩ := po
    rw [if_neg (by decide)]
    exact ⟨F', io', e', st', s', k.mono (fun _ _ _ ⟨b, hb, q⟩ => ⟨b, hb, fun H2 po2 => q H2 (PoS.ext y po2)⟩) fun _ _ _ x => XW.ext y x⟩
end
end Pv
namespace Pv
open PySem PySem.Spec PyProof.Rows L2
/-! ## an address that no part of the state knows -/
/-- the entry, with one address more that is to stay -/
def zadd (z : Zo) (a : Addr) (o : HO) : Zo := ⟨upd z.H0 a o, z.i0, fun b => z.F0 b ∧ b ≠ a, z.xa⟩
/-- nobody's -/
structure Fre (z : Zo) (F : Zn) (io : List Addr) (e : En) (σ : L2.St) (a : Addr) : Prop where
  f : ¬ F a
  i : a ∉ io
  z : z.H0 a = none
  o : ∀ (i : Nat) (d' : D), e[i]? = some (.ow d') → σ[i]? ≠ some (some (.ref a))
section
variable {K : PySem.W.Frag} {z : Zo} {F F' : Zn} {io io' : List Addr} {H H' : Hp} {e e' : En} {st st' : Sto} {σ : L2.St} {v : V} {d : D} {a : Addr} {o : HO}
theorem SR.fre (s : SR K z F io e st σ H) (h : H a = none) : Fre z F io e σ a where
  f := (s.cel.free h).1
  i := (s.cel.free h).2
  z := s.h0 h
  o := fun i d' q1 q2 => by
    obtain ⟨b, g1, g2, _⟩ := s.ow i d' q1
    rw [q2] at g1
    cases g1
    obtain ⟨u, q⟩ := g2.there
    rw [h] at q; cases q
theorem SR.addz (s : SR K z F io e st σ H) (f : Fre z F io e σ a) (ha : H a = some o) : SR K (zadd z a o) F io e st σ H := by
  have ne : ∀ {b}, b ≠ a → (zadd z a o).H0 b = z.H0 b := fun h => upd_ne h
  refine ⟨s.cel, s.el, s.fr, fun i d q => ?_, s.sep, fun b u q n => ?_, ?_, fun b hb => ?_, fun i x q => by
    obtain ⟨c, ⟨C, dd, fs, h1, h2⟩, h4⟩ := s.xc i x q
    exact ⟨c, ⟨C, dd, fs, h1, fun b hb => by
      obtain ⟨h2, h3⟩ := h2 b hb
      exact ⟨by rw [ne (fun w => by rw [w, f.z] at h2; cases h2)]; exact h2, h3⟩⟩, h4⟩⟩
  · obtain ⟨b, h1, h2, h3, h4, h5⟩ := s.ow i d q
    refine ⟨b, h1, h2, h3, h4, ?_⟩
    rw [ne (fun q2 => f.o i d q (q2 ▸ h1))]; exact h5
  · by_cases hb : b = a
    · subst hb
      have q : upd z.H0 b o b = some u := q
      rw [upd_same] at q; cases q; exact ha
    · rw [ne hb] at q; exact s.frm b u q n
  · obtain ⟨l, e1, e2⟩ := s.pre
    refine ⟨l, e1, fun b hb => ?_⟩
    rw [ne (fun q => f.i (by rw [e1, ← q]; exact List.mem_append_right _ hb))]
    exact e2 b hb
  · have hne : b ≠ a := fun q => f.f (q ▸ hb)
    rw [ne hne]
    exact (s.fnw b hb).imp (fun q => ⟨q, hne⟩) id
theorem SR.prot (s : SR K (zadd z a o) F io e st σ H) (h0 : z.H0 a = none) (hi : a ∉ z.i0) (ho : ∀ fs, o ≠ .xd fs) : SR K z F io e st σ H ∧ H a = some o ∧ Fre z F io e σ a := by
  have ne : ∀ {b}, b ≠ a → (zadd z a o).H0 b = z.H0 b := fun h => upd_ne h
  have at_ : (zadd z a o).H0 a = some o := upd_same
  have no : ∀ {b}, (zadd z a o).H0 b = none → b ≠ a ∧ z.H0 b = none := fun {b} h => by
    have hne : b ≠ a := fun q => by rw [q, at_] at h; cases h
    exact ⟨hne, by rw [← ne hne]; exact h⟩
  obtain ⟨l, e1, e2⟩ := s.pre
  refine ⟨⟨s.cel, s.el, s.fr, fun i d q => ?_, s.sep, fun b u q n => ?_, ⟨l, e1, fun b hb => (no (e2 b hb)).2⟩, fun b hb => (s.fnw b hb).imp (fun q => q.1) fun q => (no q).2, fun i x q => by
    obtain ⟨c, ⟨C, dd, fs, h1, h2⟩, h4⟩ := s.xc i x q
    exact ⟨c, ⟨C, dd, fs, h1, fun b hb => by
      obtain ⟨h2, h3⟩ := h2 b hb
      have hne : b ≠ a := fun w => by rw [w, at_] at h2; cases h2; exact ho _ rfl
      exact ⟨by rw [← ne hne]; exact h2, h3⟩⟩, h4⟩⟩, s.frm a o at_ hi, ?_, ?_, h0, fun i d' q1 q2 => ?_⟩
  · obtain ⟨b, h1, h2, h3, h4, h5⟩ := s.ow i d q
    exact ⟨b, h1, h2, h3, h4, (no h5).2⟩
  · have hne : b ≠ a := fun q2 => by rw [q2, h0] at q; cases q
    exact s.frm b u (by rw [ne hne]; exact q) n
  · intro hF
    rcases s.fnw a hF with q | q
    · exact q.2 rfl
    · rw [at_] at q; cases q
  · intro hm
    rw [e1] at hm
    rcases List.mem_append.mp hm with hm | hm
    · exact hi hm
    · exact (no (e2 a hm)).1 rfl
  · obtain ⟨b, h1, _, _, _, h5⟩ := s.ow i d' q1
    rw [q2] at h1
    cases h1
    exact (no h5).1 rfl
/-- it is written -/
theorem SR.updFre {u : HO} (s : SR K z F io e st σ H) (f : Fre z F io e σ a) (ha : H a = some o) (m : HO.isMut o) : Ext F io H F io (upd H a u) ∧ SR K z F io e st σ (upd H a u) := by
  have y : Ext F io H F io (upd H a u) := by
    refine ⟨fun _ x => x, fun b u hb _ r => ?_, fun b xs r => ?_, fun b C dx fs hb r => by rw [upd_ne (show b ≠ a from fun q => f.f (q ▸ hb))]; exact r, [], by simp⟩
    · have ne : b ≠ a := fun q => f.f (q ▸ hb)
      rcases r with r | ⟨o, r⟩
      · exact .inl (by rw [upd_ne ne]; exact r)
      · exact .inr ⟨o, by rw [upd_ne ne]; exact r⟩
    · have ne : b ≠ a := fun q => by
        subst q
        rcases r with r | ⟨_, r⟩ <;> rw [ha] at r <;> cases r <;> exact m.elim
      rcases r with r | ⟨o, r⟩
      · exact .inl (by rw [upd_ne ne]; exact r)
      · exact .inr ⟨o, by rw [upd_ne ne]; exact r⟩
  refine ⟨y, ⟨fun b hb => ?_, s.cel.len, s.cel.nd, s.cel.nof, fun n b d' q1 q2 => ?_⟩, s.el, fun j d' q => ?_, fun j d' q => ?_, s.sep, fun b u q n => ?_, s.pre, s.fnw, s.xc⟩
  · obtain ⟨u, q⟩ := s.cel.dom b hb
    exact ⟨u, by rw [upd_ne (show b ≠ a from fun w => f.f (w ▸ hb))]; exact q⟩
  · refine (s.cel.cell n b d' q1 q2).ext y (upd_ne fun z => ?_)
    subst z
    exact f.i (List.mem_iff_getElem?.mpr ⟨n, q1⟩)
  · obtain ⟨v, g1, g2⟩ := s.fr j d' q
    exact ⟨v, g1, g2.ext y⟩
  · obtain ⟨b, g1, g2, g3, g4, g5⟩ := s.ow j d' q
    exact ⟨b, g1, g2.ext y (upd_ne fun z => f.o j d' q (z ▸ g1)), g3, g4, g5⟩
  · rw [upd_ne (fun z => by rw [z, f.z] at q; cases q)]
    exact s.frm b u q n
/-- it is given -/
theorem Fre.own {u : HO} (f : Fre z F io e σ a) (ha : H a = some u) (r : HoR K H F io u d) : OwR K z H F io e σ (.ref a) d := ⟨a, rfl, ⟨u, ha, r⟩, f.f, f.i, f.z, f.o⟩
end
section
variable {p : Px} {X : Cx} {F F' : Zn} {io io' : List Addr} {H H' : Hp} {e : En} {st : Sto} {σ : L2.St} {z' : Zo}
/-- the same def, another entry -/
abbrev Px.at (p : Px) (z' : Zo) : Px := { p with z := z' }
theorem Sok.at (S : Sok p X) (hq : p.hot = false) (z' : Zo) : Sok (p.at z') X := ⟨S.K, S.mg, S.calm, S.nd, S.hu, S.tk, S.tab, S.glb, S.blt, S.att, S.new, S.met, S.prp, S.opn, S.exn, S.exk, fun h => by rw [show (p.at z').hot = p.hot from rfl, hq] at h; cases h⟩
theorem XW.addz {a : Addr} {o : HO} {x : Xc} {e' : En} {st' : Sto} (h0 : p.z.H0 a = none) (hi : a ∉ p.z.i0) (ho : ∀ fs, o ≠ .xd fs) (h : XW p F io H σ x e' st') : XW (p.at (zadd p.z a o)) F io H σ x e' st' := fun cls d H2 ⟨F2, io2, y2, s, r⟩ => h cls d H2 ⟨F2, io2, y2, (SR.prot s h0 hi ho).1, r⟩
/-- by any entry -/
def tarZ (p : Px) (c : E) : TE := fun σ H Q => ∃ z', tar (p.at z') c σ H Q
theorem pe_tarZ {ex : Expr} {c : E} (h : ∀ z', PE X ex (tar (p.at z') c)) : PE X ex (tarZ p c) := ⟨fun pins s σ H Q I ⟨z', q⟩ => (h z').run pins s σ H Q I q⟩
/-- by any entry, nothing raised -/
abbrev Px.iz (p : Px) (z' : Zo) : Px := { p with z := z', W := fun _ _ _ _ => False }
def tevI (p : Px) (c : E) : TE := fun σ H Q => ∃ z', tev (p.iz z') c σ H Q
theorem pe_tevI {ex : Expr} {c : E} (h : ∀ z', PE X ex (tev (p.iz z') c)) : PE X ex (tevI p c) := ⟨fun pins s σ H Q I ⟨z', q⟩ => (h z').run pins s σ H Q I q⟩
end
end Pv
namespace Pv
open PySem PySem.Spec PyProof.Rows L2
section
variable {K : PySem.W.Frag} {z : Zo} {F F' : Zn} {io io' : List Addr} {H H' : Hp} {e : En} {st st' : Sto} {σ : L2.St} {v : V} {d : D}
/-- a new own object becomes the store's -/
theorem SR.stow (s : SR K z F io e st σ H) (h : OwR K z H F io e σ v d) : ∃ a, v = .ref a ∧ Ext F io H F (io ++ [a]) H ∧ SR K z F (io ++ [a]) e (st ++ [d]) σ H ∧ Rep K H F (io ++ [a]) v (.loc st.length) := by
  obtain ⟨a, rfl, ho, n1, n2, n3, n4⟩ := h
  have x : Ext F io H F (io ++ [a]) H := ⟨fun _ h => h, fun _ _ _ _ r => r, fun _ _ r => r, fun _ _ _ _ _ r => r, [a], rfl⟩
  have hl := s.cel.len
  refine ⟨a, rfl, x, ⟨⟨s.cel.dom, by simp [hl], ?_, fun b hb => ?_, fun n b d' h1 h2 => ?_⟩, s.el, fun i d' q => ?_, fun i d' q => ?_, s.sep, s.frm, ?_, s.fnw, s.xc⟩, .loc (by rw [← hl]; simp)⟩
  · rw [List.nodup_append]
    exact ⟨s.cel.nd, by simp, fun b hb c hc => by simp at hc; subst hc; exact fun q => n2 (q ▸ hb)⟩
  · rcases List.mem_append.mp hb with hb | hb
    · exact s.cel.nof b hb
    · simp at hb; subst hb; exact n1
  · by_cases hn : n < io.length
    · rw [List.getElem?_append_left hn] at h1
      rw [List.getElem?_append_left (by omega)] at h2
      exact (s.cel.cell n b d' h1 h2).ext x rfl
    · rw [List.getElem?_append_right (by omega)] at h1
      rw [List.getElem?_append_right (by omega)] at h2
      have e0 : n - io.length = 0 := by
        cases hh : n - io.length with
        | zero => rfl
        | succ m => rw [hh] at h1; simp at h1
      rw [e0] at h1
      rw [show n - st.length = 0 by omega] at h2
      simp at h1 h2
      subst h1 h2
      exact ho.ext x rfl
  · obtain ⟨v, h1, h2⟩ := s.fr i d' q
    exact ⟨v, h1, h2.ext x⟩
  · obtain ⟨b, h1, h2, h3, h4, h5⟩ := s.ow i d' q
    refine ⟨b, h1, h2.ext x rfl, h3, fun hm => ?_, h5⟩
    rcases List.mem_append.mp hm with hm | hm
    · exact h4 hm
    · simp at hm; subst hm; exact n4 i d' q h1
  · obtain ⟨l, e1, e2⟩ := s.pre
    refine ⟨l ++ [a], by rw [e1, List.append_assoc], fun b hb => ?_⟩
    rcases List.mem_append.mp hb with hb | hb
    · exact e2 b hb
    · simp at hb; subst hb; exact n3
theorem stow_po {l : Bool} {P : DB → En → Sto → Prop} {E : Xc → En → Sto → Prop} {e' : En} {st' : Sto} (k : Res (stow l d e' st') P E) (h : PoE K z F io H e' st' σ (d, true) v H') :
    ∃ r e2 st2, P r e2 st2 ∧ PoE K z F io H e2 st2 σ r v H' := by
  cases l with
  | false => exact ⟨(d, true), e', st', k, h⟩
  | true =>
    obtain ⟨F', io', y, s, q⟩ := h
    obtain ⟨a, rfl, x, s', r⟩ := s.stow q
    exact ⟨(.loc st'.length, false), e', st' ++ [d], k, F', io' ++ [a], y.trans x, s', r⟩
/-- the own object of a slot is written -/
theorem ext_upd {a : Addr} {o o' : HO} (h : H a = some o) (m : HO.isMut o) (n : ¬ F a) : Ext F io H F io (upd H a o') := by
  refine ⟨fun _ x => x, fun b u hb _ r => ?_, fun b xs r => ?_, fun b C dx fs hb r => by rw [upd_ne (show b ≠ a from fun q => n (q ▸ hb))]; exact r, [], by simp⟩
  · have ne : b ≠ a := fun q => n (q ▸ hb)
    rcases r with r | ⟨o, r⟩
    · exact .inl (by rw [upd_ne ne]; exact r)
    · exact .inr ⟨o, by rw [upd_ne ne]; exact r⟩
  · have ne : b ≠ a := fun q => by
      subst q
      rcases r with r | ⟨_, r⟩ <;> rw [h] at r <;> cases r <;> exact m.elim
    rcases r with r | ⟨o, r⟩
    · exact .inl (by rw [upd_ne ne]; exact r)
    · exact .inr ⟨o, by rw [upd_ne ne]; exact r⟩
theorem SR.updOw {i : Nat} {x d : D} {a : Addr} {u : HO} (s : SR K z F io e st σ H) (h : e[i]? = some (.ow x)) (hσ : σ[i]? = some (some (.ref a))) (r : HoR K H F io u d) :
    Ext F io H F io (upd H a u) ∧ SR K z F io (e.set i (.ow d)) st σ (upd H a u) := by
  obtain ⟨b, h1, ⟨o, h2, h2'⟩, h3, h4, h5⟩ := s.ow i x h
  rw [hσ] at h1; cases h1
  have hi := (List.getElem?_eq_some_iff.mp h).1
  have y := ext_upd (io := io) (o' := u) h2 h2'.mut h3
  refine ⟨y, ⟨⟨fun b hb => ?_, s.cel.len, s.cel.nd, s.cel.nof, fun n b d' q1 q2 => ?_⟩, by simpa using s.el, fun j d' q => ?_, fun j d' q => ?_, fun j k d1 d2 b q1 q2 => ?_, fun b u q n => ?_, s.pre, s.fnw, fun j x q => by
      by_cases hj : i = j
      · subst hj; rw [List.getElem?_set_self (List.getElem?_eq_some_iff.mp h).1] at q; cases q
      · rw [List.getElem?_set_ne hj] at q; exact s.xc j x q⟩⟩
  · obtain ⟨u, q⟩ := s.cel.dom b hb
    exact ⟨u, by rw [upd_ne (show b ≠ a from fun w => h3 (w ▸ hb))]; exact q⟩
  · refine (s.cel.cell n b d' q1 q2).ext y (upd_ne fun z => ?_)
    subst z
    exact h4 (List.mem_iff_getElem?.mpr ⟨n, q1⟩)
  · have hj : i ≠ j := fun z => by subst z; rw [List.getElem?_set_self hi] at q; cases q
    rw [List.getElem?_set_ne hj] at q
    obtain ⟨v, g1, g2⟩ := s.fr j d' q
    exact ⟨v, g1, g2.ext y⟩
  · by_cases hj : i = j
    · subst hj
      rw [List.getElem?_set_self hi] at q
      cases q
      exact ⟨a, hσ, ⟨u, upd_same, r.ext y⟩, h3, h4, h5⟩
    · rw [List.getElem?_set_ne hj] at q
      obtain ⟨b, g1, g2, g3, g4, g5⟩ := s.ow j d' q
      refine ⟨b, g1, g2.ext y (upd_ne fun z => ?_), g3, g4, g5⟩
      subst z
      exact hj (s.sep i j _ _ _ h q hσ g1)
  · have own : ∀ {j : Nat} {d' : D}, (e.set i (.ow d))[j]? = some (.ow d') → ∃ d2, e[j]? = some (.ow d2) := fun {j d'} q => by
      by_cases hj : i = j
      · subst hj; exact ⟨x, h⟩
      · rw [List.getElem?_set_ne hj] at q; exact ⟨_, q⟩
    obtain ⟨d3, g1⟩ := own q1
    obtain ⟨d4, g2⟩ := own q2
    exact s.sep j k _ _ _ g1 g2
  · rw [upd_ne (fun z => by rw [z, h5] at q; cases q)]
    exact s.frm b u q n
theorem SR.updCel {n : Nat} {a : Addr} {u : HO} {d : D} (s : SR K z F io e st σ H) (h : io[n]? = some a) (r : HoR K H F io u d) :
    Ext F io H F io (upd H a u) ∧ SR K z F io e (st.set n d) σ (upd H a u) := by
  have hm : a ∈ io := List.mem_iff_getElem?.mpr ⟨n, h⟩
  have hn := (List.getElem?_eq_some_iff.mp h).1
  have hn' : n < st.length := by rw [← s.cel.len]; exact hn
  have h3 := s.cel.nof a hm
  obtain ⟨o, h2, h2'⟩ := s.cel.cell n a st[n] h (List.getElem?_eq_getElem hn')
  have y := ext_upd (io := io) (o' := u) h2 h2'.mut h3
  refine ⟨y, ⟨⟨fun b hb => ?_, by simpa using s.cel.len, s.cel.nd, s.cel.nof, fun m b d' q1 q2 => ?_⟩, s.el, fun j d' q => ?_, fun j d' q => ?_, s.sep, fun b u q nb => ?_, s.pre, s.fnw, s.xc⟩⟩
  · obtain ⟨u, q⟩ := s.cel.dom b hb
    exact ⟨u, by rw [upd_ne (show b ≠ a from fun w => h3 (w ▸ hb))]; exact q⟩
  · by_cases hmn : n = m
    · subst hmn
      rw [h] at q1; cases q1
      rw [List.getElem?_set_self hn'] at q2; cases q2
      exact ⟨u, upd_same, r.ext y⟩
    · rw [List.getElem?_set_ne hmn] at q2
      refine (s.cel.cell m b d' q1 q2).ext y (upd_ne fun z => ?_)
      subst z
      obtain ⟨g1, e1⟩ := List.getElem?_eq_some_iff.mp h
      obtain ⟨g2, e2⟩ := List.getElem?_eq_some_iff.mp q1
      exact hmn ((List.getElem_inj s.cel.nd).mp (e1.trans e2.symm))
  · obtain ⟨v, g1, g2⟩ := s.fr j d' q
    exact ⟨v, g1, g2.ext y⟩
  · obtain ⟨b, g1, g2, g3, g4, g5⟩ := s.ow j d' q
    exact ⟨b, g1, g2.ext y (upd_ne fun z => g4 (z ▸ hm)), g3, g4, g5⟩
  · rw [upd_ne (show b ≠ a from fun w => s.ni0 q nb (w ▸ hm))]
    exact s.frm b u q nb
/-- an object of a slot written -/
theorem chgS_po {f : D → Option (D × D)} {i : Nat} {P : DB → En → Sto → Prop} {E : Xc → En → Sto → Prop} (s : SR K z F io e st σ H) (hv : σ[i]? = some (some v)) (k : Res (chgS f i e st) P E) :
    ∃ a u x r x', v = .ref a ∧ H a = some u ∧ HoR K H F io u x ∧ f x = some (r, x') ∧ ∀ u', HoR K H F io u' x' →
      ∃ e' st', P (r, false) e' st' ∧ Ext F io H F io (upd H a u') ∧ SR K z F io e' st' σ (upd H a u') := by
  unfold chgS at k
  split at k
  · rename_i x hx
    obtain ⟨a, h1, ⟨u, h2, h2'⟩, _⟩ := s.ow i x hx
    rw [hv] at h1; cases h1
    split at k
    · rename_i r x' hf
      refine ⟨a, u, x, r, x', rfl, h2, h2', hf, fun u' q => ?_⟩
      obtain ⟨y, s'⟩ := s.updOw hx hv q
      exact ⟨_, _, k, y, s'⟩
    · exact k.elim
  · rename_i n hx
    obtain ⟨v', h1, h2⟩ := s.fr i _ hx
    rw [hv] at h1; cases h1
    cases h2 with
    | @loc a _ hn =>
      split at k
      · rename_i r x' hf
        simp only [Option.bind_eq_some_iff] at hf
        obtain ⟨d, hd, hf⟩ := hf
        obtain ⟨u, g1, g2⟩ := s.cel.cell n a d hn hd
        refine ⟨a, u, d, r, x', rfl, g1, g2, hf, fun u' q => ?_⟩
        obtain ⟨y, s'⟩ := s.updCel hn q
        exact ⟨_, _, k, y, s'⟩
      · exact k.elim
  · exact k.elim
theorem chgO_po {f : D → Option (D × D)} {P : DB → En → Sto → Prop} {E : Xc → En → Sto → Prop} (s : SR K z F io e st σ H) (hv : Rep K H F io v d) (k : Res (chgO f d e st) P E) :
    ∃ a u x r x', v = .ref a ∧ H a = some u ∧ HoR K H F io u x ∧ f x = some (r, x') ∧ ∀ u', HoR K H F io u' x' →
      ∃ e' st', P (r, false) e' st' ∧ Ext F io H F io (upd H a u') ∧ SR K z F io e' st' σ (upd H a u') := by
  unfold chgO at k
  split at k
  · rename_i n
    cases hv with
    | @loc a _ hn =>
      split at k
      · rename_i r x' hf
        simp only [Option.bind_eq_some_iff] at hf
        obtain ⟨d, hd, hf⟩ := hf
        obtain ⟨u, g1, g2⟩ := s.cel.cell n a d hn hd
        refine ⟨a, u, d, r, x', rfl, g1, g2, hf, fun u' q => ?_⟩
        obtain ⟨y, s'⟩ := s.updCel hn q
        exact ⟨_, _, k, y, s'⟩
      · exact k.elim
  · exact k.elim
theorem der_ob {d d' : D} (c : Cel K F io st H) (h : Rep K H F io v d) (q : der st d = some d') : RO K H F io v d' := RO.der c (.inl h) q
/-- what is known of a slot's value by its kind -/
theorem knS_ro {i : Nat} {kd : Kd} (s : SR K z F io e st σ H) (h : knS e st i = some kd) (hv : σ[i]? = some (some v)) : ∃ d, RO K H F io v d ∧ kindD d = some kd := by
  unfold knS knD at h
  simp only [Option.bind_eq_some_iff] at h
  obtain ⟨d, ⟨sl, h1, h2⟩, d', h3, h4⟩ := h
  refine ⟨d', ?_, h4⟩
  cases sl with
  | un => cases h2
  | xc x => cases h2
  | fr x =>
    cases h2
    obtain ⟨v', g1, g2⟩ := s.fr i _ h1
    rw [hv] at g1; cases g1
    exact der_ob s.cel g2 h3
  | ow x =>
    cases h2
    obtain ⟨a, g1, g2, _⟩ := s.ow i _ h1
    rw [hv] at g1; cases g1
    exact RO.der s.cel (.inr ⟨a, rfl, g2⟩) h3
theorem knS_def {i : Nat} {kd : Kd} (h : knS e st i = some kd) : isDef e i = true := by
  unfold knS at h
  simp only [Option.bind_eq_some_iff] at h
  obtain ⟨d, ⟨sl, h1, h2⟩, _⟩ := h
  unfold isDef
  rw [h1]
  cases sl <;> first | rfl | cases h2
theorem knD_ro {kd : Kd} (s : SR K z F io e st σ H) (h : knD st d = some kd) (hv : Rep K H F io v d) : ∃ d, RO K H F io v d ∧ kindD d = some kd := by
  unfold knD at h
  simp only [Option.bind_eq_some_iff] at h
  obtain ⟨d', h3, h4⟩ := h
  exact ⟨d', der_ob s.cel hv h3, h4⟩
theorem ro_lst (h : RO K H F io v d) (k : kindD d = some .lst) : tyV K "list" v H := by
  cases d <;> simp [kindD] at k
  obtain ⟨a, xs, rfl, ha, _⟩ := h.lst
  exact .inl ⟨rfl, xs, ha⟩
theorem ro_dic (h : RO K H F io v d) (k : kindD d = some .dic) : ∃ a, v = .ref a ∧ IsD H a := by
  cases d <;> simp [kindD] at k
  obtain ⟨a, xs, rfl, ha, _⟩ := h.dic
  exact ⟨a, rfl, .inl ⟨xs, ha⟩⟩
end

section
variable {p : Px} {X : Cx} {es : Es} {c : E} {ex a b : Expr} {l : List Expr} {pos : Pos} {F F' : Zn} {io io' : List Addr} {H H' : Hp} {e : En} {st : Sto} {σ : L2.St}
theorem EsOK.two (h : EsOK X p es [a, b]) : ∃ ca cb, es = .cons ca (.cons cb .nil) ∧ EOK X p a ca ∧ EOK X p b cb := by
  cases h with
  | cons h1 h =>
    cases h with
    | cons h2 h => cases h; exact ⟨_, _, rfl, h1, h2⟩
theorem EsOK.one (h : EsOK X p es [a]) : ∃ ca, es = .cons ca .nil ∧ EOK X p a ca := by
  cases h with
  | cons h1 h => cases h; exact ⟨_, rfl, h1⟩
theorem Res.of_boolR {o : Option Bool} {e : En} {s : Sto} {P : DB → En → Sto → Prop} {E : Xc → En → Sto → Prop} (h : Res (boolR o e s) P E) : ∃ b, o = some b ∧ P (.bool b, false) e s := by
  cases o with
  | none => exact h.elim
  | some b => exact ⟨b, rfl, h⟩
/-! ### comparisons -/
/-- a comparison behind its operands -/
def CmT (p : Px) (op : CmpOp) (Q : Bool → Hp → Prop) (vs : List V) (H2 : Hp) : Prop :=
  ∃ F io x y b, ROL p.K H2 F io vs [x, y] ∧ cmpD op x y = some b ∧ Q b H2
theorem cmp_tag {op : CmpOp} {P : DB → En → Sto → Prop} {Q : Bool → Hp → Prop} (s : SR p.K p.z F io e st σ H)
    (h : Res ((ag p.B p.G es e st).bind fun as e s => boolR ((rd e as).bind (cmpO op s)) e s) P (XW p F io H σ))
    (hP : ∀ b e' st', P (.bool b, false) e' st' → ∀ H', PoS p.K p.z F io H e' st' σ H' → Q b H') :
    tag p es σ H (CmT p op Q) := by
  refine ⟨F, io, e, st, s, h.of_bind.mono (fun as e' st' k vs H' ⟨F', io', y, s', q⟩ => ?_) fun _ _ _ x => x⟩
  obtain ⟨b, hb, k⟩ := k.of_boolR
  simp only [Option.bind_eq_some_iff] at hb
  obtain ⟨ds, q1, q2⟩ := hb
  have ro := s'.ro q q1
  match ds, q2, ro with
  | [d1, d2], q2, ro =>
    simp only [cmpO, Option.bind_eq_some_iff] at q2
    obtain ⟨x, g1, y', g2, g3⟩ := q2
    match vs, ro with
    | [v1, v2], ⟨r1, r2, t⟩ => exact ⟨F', io', x, y', b, ⟨r1.der s'.cel g1, r2.der s'.cel g2, trivial⟩, g3, hP b e' st' k H' ⟨F', io', y, s'⟩⟩
theorem PoS.poB {b : Bool} {e' : En} {st' : Sto} (h : PoS p.K p.z F io H e' st' σ H') : PoE p.K p.z F io H e' st' σ (.bool b, false) (.bl b) H' := let ⟨F', io', y, s⟩ := h; ⟨F', io', y, s, .bl b⟩
theorem e_cmp {op : CmpOp} (S : Sok p X) (h : EsOK X p es [a, b]) : PE X (.Compare a [op] [b] pos) (tev p (.cmp op es)) := by
  obtain ⟨ca, cb, rfl, ha, hb⟩ := h.two
  refine PE.imp (pe_cmpR (op_cmp S.hu op) ha.par hb.par (hb.pm op)) fun σ H Q ⟨F, io, e, st, s, h⟩ => ?_
  rw [ev] at h
  refine (tag2 (cmp_tag (Q := fun b H2 => Q (.bl b) H2) s h fun b e' st' k H' po => k _ _ po.poB)).mono fun x H1 q => q.mono fun y H2 q => ?_
  obtain ⟨F2, io2, d1, d2, b, ⟨r1, r2, _⟩, hc, k⟩ := q
  exact ⟨F2, io2, d1, d2, b, S.K ▸ r1, S.K ▸ r2, hc, k⟩
theorem t_cmp {op : CmpOp} (S : Sok p X) (h : EsOK X p es [a, b]) : PT X (.Compare a [op] [b] pos) (tpt p (.cmp op es)) := by
  obtain ⟨ca, cb, rfl, ha, hb⟩ := h.two
  refine PT.imp (pt_cmpR (op_cmp S.hu op) ha.par hb.par (hb.pm op)) fun σ H Q ⟨F, io, e, st, s, h⟩ => ?_
  unfold bRes at h
  rw [ev] at h
  refine (tag2 (cmp_tag (Q := fun b H2 => Q b H2) s h fun b e' st' k H' po => ?_)).mono fun x H1 q => q.mono fun y H2 q => ?_
  · obtain ⟨b', hb', k⟩ := k
    cases hb'
    exact k H' po
  · obtain ⟨F2, io2, d1, d2, b, ⟨r1, r2, _⟩, hc, k⟩ := q
    exact ⟨F2, io2, d1, d2, b, S.K ▸ r1, S.K ▸ r2, hc, b, rfl, k⟩
/-- a chain behind its first two operands -/
def ChT (p : Px) (o1 o2 : CmpOp) (c : E) (σ : L2.St) (Q : Bool → Hp → Prop) (vs : List V) (H2 : Hp) : Prop :=
  ∃ F io x j b, ROL p.K H2 F io vs [x, .int j] ∧ cmpD o1 x (.int j) = some b ∧ if b = true then tev p c σ H2 (fun w H4 => ∃ F io z b, Rep p.K H4 F io w z ∧ cmpD o2 (.int j) z = some b ∧ Q b H4) else Q false H2
theorem chn_tag {o1 o2 : CmpOp} {P : DB → En → Sto → Prop} {Q : Bool → Hp → Prop} (s : SR p.K p.z F io e st σ H)
    (h : Res (ev p.B p.G (.chn o1 o2 es c) e st) P (XW p F io H σ))
    (hP : ∀ b e' st', P (.bool b, false) e' st' → ∀ H', PoS p.K p.z F io H e' st' σ H' → Q b H') :
    tag p es σ H (ChT p o1 o2 c σ Q) := by
  rw [ev] at h
  refine ⟨F, io, e, st, s, h.of_bind.mono (fun as e' st' k vs H' ⟨F', io', y, s', q⟩ => ?_) fun _ _ _ x => x⟩
  split at k
  · rename_i x j hds
    have ro := s'.ro q hds
    split at k
    · rename_i hc
      refine ⟨F', io', x, j, true, ro, hc, ?_⟩
      rw [if_pos rfl]
      refine ⟨F', io', e', st', s', k.of_bind.mono (fun r e2 st2 k2 w H4 po => ?_) fun _ _ _ x => XW.ext y x⟩
      obtain ⟨b, hb, k2⟩ := k2.of_boolR
      obtain ⟨F2, io2, y2, s2, q2⟩ := po.frz
      exact ⟨F2, io2, r.1, b, q2, hb, hP b e2 st2 k2 H4 ⟨F2, io2, y.trans y2, s2⟩⟩
    · rename_i hc
      refine ⟨F', io', x, j, false, ro, hc, ?_⟩
      rw [if_neg (by decide)]
      exact hP false e' st' k H' ⟨F', io', y, s'⟩
    · exact k.elim
  · exact k.elim
theorem lastM {op op' : CmpOp} {b c : Expr} (h : behindInMarks op' c = false) : lastMarks [op, op'] [b, c] = false := h
theorem e_chn {o1 o2 : CmpOp} {cx : Expr} (S : Sok p X) (h : EsOK X p es [a, b]) (hc : EOK X p cx c) : PE X (.Compare a [o1, o2] [b, cx] pos) (tev p (.chn o1 o2 es c)) := by
  obtain ⟨ca, cb, rfl, ha, hb⟩ := h.two
  refine PE.imp (pe_chain (op_cmp S.hu o1) (op_cmp S.hu o2) ha.par hb.par hc.pe (lastM (hc.pm o2))) fun σ H Q ⟨F, io, e, st, s, h⟩ => ?_
  refine (tag2 (chn_tag (Q := fun b H2 => Q (.bl b) H2) s h fun b e' st' k H' po => k _ _ po.poB)).mono fun x H1 q => q.mono fun y H2 q => ?_
  obtain ⟨F2, io2, d1, j, b, ⟨r1, r2, _⟩, hc, k⟩ := q
  refine ⟨F2, io2, d1, .int j, b, S.K ▸ r1, S.K ▸ r2, hc, b, rfl, ?_⟩
  split at k
  · rename_i hb
    rw [if_pos hb]
    refine k.mono fun w H4 ⟨F3, io3, z, b', g1, g2, g3⟩ => ⟨F3, io3, .int j, z, b', ?_, .inl (S.K ▸ g1), g2, g3⟩
    rw [r2.int]
    exact .inl (.int j)
  · rename_i hb
    rw [if_neg hb]
    exact k
theorem t_chn {o1 o2 : CmpOp} {cx : Expr} (S : Sok p X) (h : EsOK X p es [a, b]) (hc : EOK X p cx c) : PT X (.Compare a [o1, o2] [b, cx] pos) (tpt p (.chn o1 o2 es c)) := by
  obtain ⟨ca, cb, rfl, ha, hb⟩ := h.two
  refine PT.imp (pt_chain (op_cmp S.hu o1) (op_cmp S.hu o2) ha.par hb.par hc.pe (lastM (hc.pm o2))) fun σ H Q ⟨F, io, e, st, s, h⟩ => ?_
  refine (tag2 (chn_tag (Q := fun b H2 => Q b H2) s h fun b e' st' k H' po => ?_)).mono fun x H1 q => q.mono fun y H2 q => ?_
  · obtain ⟨b', hb', k⟩ := k
    cases hb'
    exact k H' po
  · obtain ⟨F2, io2, d1, j, b, ⟨r1, r2, _⟩, hc, k⟩ := q
    refine ⟨F2, io2, d1, .int j, b, S.K ▸ r1, S.K ▸ r2, hc, b, rfl, ?_⟩
    split at k
    · rename_i hb
      rw [if_pos hb]
      refine k.mono fun w H4 ⟨F3, io3, z, b', g1, g2, g3⟩ => ⟨F3, io3, .int j, z, b', ?_, .inl (S.K ▸ g1), g2, b', rfl, g3⟩
      rw [r2.int]
      exact .inl (.int j)
    · rename_i hb
      rw [if_neg hb]
      exact ⟨false, rfl, k⟩
/-! ### displays -/
theorem e_tup {k0 : Nat} (h : EsOK X p es l) : PE X (.Tuple l k0 pos) (tev p (.tup es)) := by
  refine PE.imp (pe_tup h.pes.pa) fun σ H Q ⟨F, io, e, st, s, h⟩ => ?_
  rw [ev] at h
  refine ⟨F, io, e, st, s, h.of_bind.mono (fun as e' st' k vs H' ⟨F', io', y, s', q⟩ => ?_) fun _ _ _ x => x⟩
  split at k
  · rename_i ds hds
    split at k
    · rename_i hl
      obtain ⟨F2, y2, s2, r⟩ := s'.fz q hds
      refine ⟨by rw [r.length, ← sizeMax_eq]; exact hl, fun p hp => k _ _ (PoE.ext (y.trans y2) (NV.po s2 (.tup hp r)))⟩
    · exact k.elim
  · exact k.elim
theorem e_lst {ll : Bool} (h : EsOK X p es l) : PE X (.List l pos) (tev p (.lst ll es)) := by
  refine PE.imp (pe_lst h.pes.pa) fun σ H Q ⟨F, io, e, st, s, h⟩ => ?_
  rw [ev] at h
  refine ⟨F, io, e, st, s, h.of_bind.mono (fun as e' st' k vs H' ⟨F', io', y, s', q⟩ => ?_) fun _ _ _ x => x⟩
  split at k
  · rename_i ds hds
    split at k
    · rename_i hl
      obtain ⟨F2, y2, s2, r⟩ := s'.fz q hds
      refine ⟨by rw [r.length, ← sizeMax_eq]; exact hl, fun p hp => ?_⟩
      obtain ⟨r', e2, st2, k, po⟩ := stow_po k (PoE.ext (y.trans y2) (NV.po s2 (.lst hp r)))
      exact k _ _ po
    · exact k.elim
  · exact k.elim
/-! ### subscripts -/
theorem atD_at {K : PySem.W.Frag} {vs : List V} {ds : List D} {i : Int} {d : D} (h : RepL K H F io vs ds) (q : atD ds i = some d) : ∃ v, atI vs i = some v ∧ Rep K H F io v d := by
  unfold atD atI at q
  rw [← h.length] at q
  simp only [Option.bind_eq_some_iff] at q
  obtain ⟨j, q1, q2⟩ := q
  obtain ⟨v, g1, g2⟩ := h.get q2
  exact ⟨v, by unfold atI; rw [q1]; exact g1, g2⟩
def rSub (K : PySem.W.Frag) : R2 := fun x y H Q => ∃ F io dx dy d, RO K H F io x dx ∧ RO K H F io y dy ∧ subD dx dy = some d ∧ ∀ v, Rep K H F io v d → Q v H
theorem IxR.imp {r r' : R2} (h : IxR X r) (i : ∀ x y H Q, r' x y H Q → r x y H Q) : IxR X r' := fun a b pins s σ H x y v u Q I rx ry q hs => h a b pins s σ H x y v u Q I rx ry (i _ _ _ _ q) hs
theorem ix_dic (hu : X.A.units + 1 < cLine) : IxR X (fun x y H Q => ∃ a v, x = .ref a ∧ DGet H a y (some v) ∧ Q v H) := by
  intro value slice pins s σ H x y v u Q I rx ry ⟨a, w, e, g, q⟩ hs
  subst e
  obtain rfl : v = Value.ref a := rx
  exact tail_any (dict_typeIs I g) PySem.F.slot_dict_getitem.lookup (d_getItem hu I g ry fun w' s' I' rw' => ⟨w, H, I', rw', q⟩) hs
theorem ix_sub (hu : X.A.units + 1 < cLine) : IxR X (rSub X.K) := by
  have o : IxR X (fun x y H Q => rIx X.K x y H Q ∨ ∃ a v, x = .ref a ∧ DGet H a y (some v) ∧ Q v H) := fun a b pins s σ H x y v u Q I rx ry q hs => q.elim (fun q => ix_seq a b pins s σ H x y v u Q I rx ry q hs) (fun q => ix_dic hu a b pins s σ H x y v u Q I rx ry q hs)
  refine IxR.imp o ?_
  rintro x y H Q ⟨F, io, dx, dy, d, hx, hy, e, q⟩
  cases dx <;> simp only [subD] at e <;> try contradiction
  · cases dy <;> simp only [] at e <;> try contradiction
    split at e
    · rename_i hl
      simp only [Option.map_eq_some_iff] at e
      obtain ⟨c, e1, rfl⟩ := e
      exact .inl (.inr (.inr ⟨_, _, c, hx.str, hy.int, by rw [← sizeMax_eq]; exact hl, e1, q _ (.str _)⟩))
    · contradiction
  · cases dy <;> simp only [] at e <;> try contradiction
    obtain ⟨a, xs, rfl, ha, ra⟩ := hx.tup
    obtain ⟨v, g1, g2⟩ := atD_at ra e
    exact .inl (.inr (.inl ⟨a, xs, _, v, rfl, hy.int, ha, g1, q _ g2⟩))
  · cases dy <;> simp only [] at e <;> try contradiction
    obtain ⟨a, xs, rfl, ha, ra⟩ := hx.lst
    obtain ⟨v, g1, g2⟩ := atD_at ra e
    exact .inl (.inl ⟨a, xs, _, v, rfl, hy.int, ha, g1, q _ g2⟩)
  · split at e <;> try contradiction
    rename_i hk
    obtain ⟨a, kvs, rfl, ha, ra⟩ := hx.dic
    rw [key_is hk] at e
    rcases ra.look (k := dy.toKey) with ⟨h1, h2⟩ | ⟨d', v, h1, h2, h3⟩
    · rw [h1] at e; cases e
    · rw [h1] at e; cases e
      exact .inr ⟨a, v, rfl, .inl ⟨kvs, dy.toKey, ha, hy.key hk, h2.symm⟩, q _ h3⟩
theorem e_sub (S : Sok p X) (h : EsOK X p es [a, b]) : PE X (.Subscript a b pos) (tev p (.sub es)) := by
  obtain ⟨ca, cb, rfl, ha, hb⟩ := h.two
  refine PE.imp (pe_ix (ix_sub (by have := S.hu; omega)) ha.par hb.par hb.px) fun σ H Q ⟨F, io, e, st, s, h⟩ => ?_
  rw [ev] at h
  refine (tag2 (op_tag s h)).mono fun x H1 q => q.mono fun y H2 q => ?_
  obtain ⟨F2, io2, ds, r, hr, hg, k⟩ := q
  match ds, hr, hg with
  | [d1, d2], ⟨r1, r2, _⟩, hg =>
    simp only [subO, Option.map_eq_some_iff] at hg
    obtain ⟨d, hd, rfl⟩ := hg
    exact ⟨F2, io2, d1, d2, d, S.K ▸ r1, S.K ▸ r2, hd, fun v q => k v H2 (.val (S.K ▸ q))⟩
/-- slices -/
def rSlc (K : PySem.W.Frag) : V → Option Int → Option Int → Hp → VK → Prop := fun x lo hi H Q => ∃ F io d r, RO K H F io x d ∧ slcD d lo hi = some r ∧ ∀ v H', NV K H F io r v H' → Q v H'
theorem SlR.imp {r r' : V → Option Int → Option Int → Hp → VK → Prop} (h : SlR X r) (i : ∀ x lo hi H Q, r' x lo hi H Q → r x lo hi H Q) : SlR X r' := fun pins s σ H x v vl vu lo hi sl Q I rx hs pl pu q => h pins s σ H x v vl vu lo hi sl Q I rx hs pl pu (i _ _ _ _ _ q)
theorem cut_rep {K : PySem.W.Frag} {vs : List V} {ds : List D} (h : RepL K H F io vs ds) (lo hi : Option Int) : RepL K H F io (cutV vs lo hi) (cutL ds lo hi) := by
  unfold cutV cutL
  rw [h.length]
  exact (h.drop _).take _
theorem sl_slc : SlR X (rSlc X.K) := by
  refine SlR.imp (sl_list.or (sl_tupA.or sl_str)) ?_
  rintro x lo hi H Q ⟨F, io, d, r, hx, e, q⟩
  cases d <;> simp only [slcD, nul] at e <;> try contradiction
  · split at e
    · rename_i hl; cases e
      exact .inr (.inr ⟨_, hx.str, by rw [← sizeMax_eq]; exact hl, q _ _ (.str _)⟩)
    · contradiction
  · cases e
    obtain ⟨a, xs, rfl, ha, ra⟩ := hx.tup
    refine .inr (.inl ⟨a, xs, rfl, ha, fun ⟨h1, h2⟩ => ?_, fun _ p hp => q _ _ (.tup hp (cut_rep ra lo hi))⟩)
    refine q _ _ (.val ?_)
    have e1 : cutV xs lo hi = xs := by unfold cutV; rw [h1, h2]; simp
    have := cut_rep ra lo hi
    rw [e1] at this
    exact .tup ha this
  · cases e
    obtain ⟨a, xs, rfl, ha, ra⟩ := hx.lst
    exact .inl ⟨a, xs, rfl, ha, fun p hp => q _ _ (.lst hp (cut_rep ra lo hi))⟩
theorem slc_end {f : V → Option Int × Option Int} {lo hi : Option Int} {d : D} {r : DB} {Q : VK} {x : V} (S : Sok p X) (hx : RO p.K H F io x d) (g : slcD d lo hi = some r) (k : ∀ v H', NV p.K H F io r v H' → Q v H') : rSlc X.K x lo hi H Q :=
  ⟨F, io, d, r, S.K ▸ hx, g, fun v H' nv => k v H' (S.K ▸ nv)⟩
theorem e_slc0 {p2 : Pos} {ca : E} (S : Sok p X) (ha : EOK X p a ca) : PE X (.Subscript a (.Slice none none none p2) pos) (tev p (.slc 0 (.cons ca .nil))) := by
  refine PE.imp (pe_slice sl_slc ha.par po_none po_none) fun σ H Q ⟨F, io, e, st, s, h⟩ => ?_
  rw [ev] at h
  refine (tag1 (op_tag s h)).mono fun x H1 q => ?_
  obtain ⟨F2, io2, ds, r, hr, hg, k⟩ := q
  match ds, hr, hg with
  | [d1], ⟨r1, _⟩, hg => exact slc_end (f := fun _ => (none, none)) S r1 hg k
theorem e_slc1 {p2 : Pos} {ca cb : E} (S : Sok p X) (ha : EOK X p a ca) (hb : EOK X p b cb) : PE X (.Subscript a (.Slice (some b) none none p2) pos) (tev p (.slc 1 (.cons ca (.cons cb .nil)))) := by
  refine PE.imp (pe_slice sl_slc ha.par (po_some hb.par) po_none) fun σ H Q ⟨F, io, e, st, s, h⟩ => ?_
  rw [ev] at h
  refine (tag2 (op_tag s h)).mono fun x H1 q => q.mono fun y H2 q => ?_
  obtain ⟨F2, io2, ds, r, hr, hg, k⟩ := q
  match ds, hr, hg with
  | [d1, .int i], ⟨r1, r2, _⟩, hg => exact ⟨i, r2.int, slc_end (f := fun _ => (none, none)) S r1 hg k⟩
theorem e_slc2 {p2 : Pos} {ca cb : E} (S : Sok p X) (ha : EOK X p a ca) (hb : EOK X p b cb) : PE X (.Subscript a (.Slice none (some b) none p2) pos) (tev p (.slc 2 (.cons ca (.cons cb .nil)))) := by
  refine PE.imp (pe_slice sl_slc ha.par po_none (po_some hb.par)) fun σ H Q ⟨F, io, e, st, s, h⟩ => ?_
  rw [ev] at h
  refine (tag2 (op_tag s h)).mono fun x H1 q => q.mono fun y H2 q => ?_
  obtain ⟨F2, io2, ds, r, hr, hg, k⟩ := q
  match ds, hr, hg with
  | [d1, .int i], ⟨r1, r2, _⟩, hg => exact ⟨i, r2.int, slc_end (f := fun _ => (none, none)) S r1 hg k⟩
theorem e_slc4 {kk : _} {q1 q2 q3 : Pos} {ca : E} (S : Sok p X) (ha : EOK X p a ca) : PE X (.Subscript a (.Slice none none (some (.UnaryOp .USub (.Constant (.int 1) kk q1) q2)) q3) pos) (tev p (.slc 4 (.cons ca .nil))) := by
  refine PE.imp (pe_revL ha.par) fun σ H Q ⟨F, io, e, st, s, h⟩ => ?_
  rw [ev] at h
  refine (tag1 (op_tag s h)).mono fun x H1 q => ?_
  obtain ⟨F2, io2, ds, r, hr, hg, k⟩ := q
  unfold slcO at hg
  split at hg <;> first | (exfalso; omega) | (cases hg; done) | skip
  cases hg
  obtain ⟨r1, _⟩ := hr
  obtain ⟨a, xs, rfl, ha, ra⟩ := r1.lst
  exact ⟨a, xs, rfl, S.K ▸ ha, fun p hp => k _ _ (.lst hp ra.reverse)⟩
theorem ROL.snoc {K : PySem.W.Frag} : ∀ {vs : List V} {ds : List D} {v : V} {d : D}, ROL K H F io vs ds → RO K H F io v d → ROL K H F io (vs ++ [v]) (ds ++ [d])
  | [], [], _, _, _, h => ⟨h, trivial⟩
  | _ :: _, _ :: _, _, _, ⟨h1, h2⟩, h => ⟨h1, ROL.snoc h2 h⟩
  | [], _ :: _, _, _, h, _ => h.elim
  | _ :: _, [], _, _, h, _ => h.elim
theorem e_slc3 {p2 : Pos} {cc : E} {b2 : Expr} (S : Sok p X) (h : EsOK X p es [a, b]) (hc : EOK X p b2 cc) : PE X (.Subscript a (.Slice (some b) (some b2) none p2) pos) (tev p (.slb es cc)) := by
  obtain ⟨ca, cb, rfl, ha, hb⟩ := h.two
  refine PE.imp (pe_slice sl_slc ha.par (po_some hb.par) (po_some hc.pe)) fun σ H Q ⟨F, io, e, st, s, h⟩ => ?_
  rw [ev] at h
  have T : tag p (.cons ca (.cons cb .nil)) σ H fun vs H2 => ∃ x i, vs = [x, .int i] ∧ tev p cc σ H2 fun w H3 => ∃ j, w = .int j ∧ rSlc X.K x (some i) (some j) H3 Q := by
    refine ⟨F, io, e, st, s, h.of_bind.mono (fun as e' st' k vs H' ⟨F', io', y, s', q⟩ => ?_) fun _ _ _ x => x⟩
    split at k
    · rename_i d1 i hds
      have ro := s'.ro q hds
      match vs, ro with
      | [x, y'], ⟨r1, r2, _⟩ =>
        have hy := r2.int
        subst hy
        refine ⟨x, i, rfl, F', io', e', st', s', k.of_bind.mono (fun r e2 st2 k2 w H3 po => ?_) fun _ _ _ x => XW.ext y x⟩
        obtain ⟨F2, io2, y2, s2, q2⟩ := po.frz
        unfold opR at k2
        split at k2
        · rename_i ds hds2
          obtain ⟨r', hr, k3⟩ := k2.of_of
          simp only [Option.bind_eq_some_iff] at hds2
          obtain ⟨ds0, g1, g2⟩ := hds2
          have ro2 := (s2.ro (ArL.ext y2 q) g1).ders s2.cel g2
          match ds, ro2, hr with
          | [d1', d2'], ⟨p1, p2, _⟩, hr =>
            simp only [List.cons_append, List.nil_append] at hr
            cases d2' <;> cases h3 : r.1 <;> rw [h3] at hr <;> simp only [slcO] at hr <;> try contradiction
            rw [h3] at q2
            have e1 := p2.int
            cases e1
            exact ⟨_, RO.int (.inl q2), slc_end (f := fun _ => (none, none)) S p1 hr fun v H' nv => k3 v H' (PoE.ext (y.trans y2) (NV.po s2 nv))⟩
        · exact k2.elim
    · exact k.elim
  refine (tag2 T).mono fun x H1 q => q.mono fun y H2 ⟨x', i, e1, q⟩ => ?_
  cases e1
  exact ⟨i, rfl, q⟩
end
end Pv
namespace Pv
open PySem PySem.Spec PyProof.Rows L2
section
variable {p : Px} {X : Cx} {c : E} {ex a b : Expr} {pos : Pos} {F F' : Zn} {io io' : List Addr} {H H' : Hp} {e : En} {st : Sto} {σ : L2.St}
theorem glb_dic (S : Sok p X) {x : Str} (h : gDic (p.G x) = true) : ∃ kvs, p.G x = some (.dic kvs) ∧ GD X.w X.K X.mg x kvs := by
  cases hx : p.G x with
  | none => rw [hx] at h; cases h
  | some d =>
    rw [hx] at h
    rcases S.glb x d hx with ⟨kvs, rfl, g⟩ | ⟨q, _⟩
    · exact ⟨kvs, rfl, g⟩
    · exact absurd (h.symm.trans q) (by simp)
theorem GD.isS {K : PySem.W.Frag} {es : Array DictEntry} {kvs : List (D × D)} (r : EsR K es.toList kvs) {d : D} (hk : d.key = true) : (findBy keyIs es d.toKey).isSome = (lookK kvs d).isSome := by
  rcases GD.ns r d.toKey with ⟨g1, g2⟩ | ⟨d', u, v', g1, g2, g3, g4⟩ <;> rw [← key_is hk] at g1 <;> rw [g1, g2] <;> rfl
/-- D[e], D a dict of the module -/
theorem e_gds {x : Str} {xp : Pos} (S : Sok p X) (hg : Gl X x) (hd : (x == ("__debug__" : Str)) = false) (h : EOK X p a c) : PE X (.Subscript (.Name x xp) a pos) (tev p (.gds x c)) := by
  by_cases hx : gDic (p.G x) = true
  · obtain ⟨kvs, e0, pa, es, n, h1, D, r⟩ := glb_dic S hx
    refine PE.imp (pe_ix ix_mdict (pe_glob (v := .ref pa) hg h1 rfl hd) h.pe h.px) fun σ H Q ⟨F, io, e, st, s, k⟩ => ?_
    rw [ev, if_pos hx, e0] at k
    refine ⟨F, io, e, st, s, k.of_bind.mono (fun q e' st' k v H' po => ?_) fun _ _ _ x => x⟩
    obtain ⟨F', io', y, s', hv⟩ := po.frz
    obtain ⟨d, w⟩ := q
    obtain ⟨r0, hr, k⟩ := k.of_of
    obtain ⟨hk, v0, hl, rfl⟩ := gdsO_K hr
    rw [key_is hk] at hl
    rcases GD.ns r d.toKey with ⟨g1, g2⟩ | ⟨d', u, v', g1, g2, g3, g4⟩
    · rw [g1] at hl; cases hl
    · rw [g1] at hl; cases hl
      exact ⟨pa, _, es, n, u, v', rfl, RO.key (.inl hv) hk, D, g2, g3, k v' H' (PoE.ext y (NV.po s' (.val (S.K ▸ g4 ..))))⟩
  · refine ⟨fun pins s σ H Q I ⟨F, io, e, st, _, h⟩ => ?_⟩
    rw [ev, if_neg hx] at h
    exact h.elim
/-- e in D -/
theorem e_gdi {x : Str} {xp : Pos} {nn : Bool} (S : Sok p X) (hg : Gl X x) (hd : (x == ("__debug__" : Str)) = false) (h : EOK X p a c) : PE X (.Compare a [if nn then .NotIn else .In] [.Name x xp] pos) (tev p (.gdi nn x c)) := by
  by_cases hx : gDic (p.G x) = true
  · obtain ⟨kvs, e0, pa, es, n, h1, D, r⟩ := glb_dic S hx
    refine PE.imp (pe_cmpR (op_in_md nn) h.pe (pe_glob (v := .ref pa) hg h1 rfl hd) (by cases nn <;> rfl)) fun σ H Q ⟨F, io, e, st, s, k⟩ => ?_
    rw [ev, if_pos hx, e0] at k
    refine ⟨F, io, e, st, s, k.of_bind.mono (fun q e' st' k v H' po => ?_) fun _ _ _ x => x⟩
    obtain ⟨F', io', y, s', hv⟩ := po.frz
    obtain ⟨d, w⟩ := q
    obtain ⟨r0, hr, k⟩ := k.of_of
    obtain ⟨hk, rfl⟩ := gdiO_K hr
    refine ⟨pa, d.toKey, es, n, RO.key (.inl hv) hk, rfl, D, k _ H' (PoE.ext y (NV.po s' (.val ?_)))⟩
    rw [GD.isS r hk]
    exact .bl _
  · refine ⟨fun pins s σ H Q I ⟨F, io, e, st, _, h⟩ => ?_⟩
    rw [ev, if_neg hx] at h
    exact h.elim
theorem t_gdi {x : Str} {xp : Pos} {nn : Bool} (S : Sok p X) (hg : Gl X x) (hd : (x == ("__debug__" : Str)) = false) (h : EOK X p a c) : PT X (.Compare a [if nn then .NotIn else .In] [.Name x xp] pos) (tpt p (.gdi nn x c)) := by
  by_cases hx : gDic (p.G x) = true
  · obtain ⟨kvs, e0, pa, es, n, h1, D, r⟩ := glb_dic S hx
    refine PT.imp (pt_cmpR (op_in_md nn) h.pe (pe_glob (v := .ref pa) hg h1 rfl hd) (by cases nn <;> rfl)) fun σ H Q ⟨F, io, e, st, s, k⟩ => ?_
    unfold bRes at k
    rw [ev, if_pos hx, e0] at k
    refine ⟨F, io, e, st, s, k.of_bind.mono (fun q e' st' k v H' po => ?_) fun _ _ _ x => x⟩
    obtain ⟨F', io', y, s', hv⟩ := po.frz
    obtain ⟨d, w⟩ := q
    obtain ⟨r0, hr, k⟩ := k.of_of
    obtain ⟨hk, rfl⟩ := gdiO_K hr
    obtain ⟨b, hb, k⟩ := k
    cases hb
    refine ⟨pa, d.toKey, es, n, RO.key (.inl hv) hk, rfl, D, _, rfl, ?_⟩
    rw [GD.isS r hk]
    exact k H' ⟨F', io', y, s'⟩
  · refine ⟨fun pins s σ H Q I ⟨F, io, e, st, _, h⟩ => ?_⟩
    unfold bRes at h
    rw [ev, if_neg hx] at h
    exact h.elim
end
end Pv
namespace Pv
open PySem PySem.Spec PyProof.Rows L2 StX
/-! ## displays of dicts -/
def prs : List V → List (V × V)
  | x :: y :: r => (x, y) :: prs r
  | _ => []
/-- keys and values in turn -/
def flatKV : List (Option Expr) → List Expr → Option (List Expr)
  | [], [] => some []
  | some k :: ks, v :: vs => (flatKV ks vs).map fun l => k :: v :: l
  | _, _ => none
def trsZ (p : Px) : Es → List (TE × TE)
  | .cons a (.cons b r) => (tarZ p a, tarZ p b) :: trsZ p r
  | _ => []
theorem flat_all : ∀ {ks : List (Option Expr)} {vs l : List Expr}, flatKV ks vs = some l → ks.all (·.isSome) = true ∧ ks.length = vs.length ∧ l.length = 2 * ks.length
  | [], [], l, h => by cases h; exact ⟨rfl, rfl, rfl⟩
  | some k :: ks, v :: vs, l, h => by
    simp only [flatKV, Option.map_eq_some_iff] at h
    obtain ⟨l', h, rfl⟩ := h
    obtain ⟨h1, h2, h3⟩ := flat_all h
    exact ⟨by simpa using h1, by simp [h2], by simp [h3]; omega⟩
  | [], _ :: _, _, h => by cases h
  | none :: _, _, _, h => by simp [flatKV] at h
  | some _ :: _, [], _, h => by simp [flatKV] at h
theorem dct_pps {X : Cx} {p : Px} {pos : Pos} : ∀ {ks : List (Option Expr)} {vs l : List Expr} {es : Es}, flatKV ks vs = some l → (∀ z', EsOK X (p.at z') es l) → PPs X pos ks vs (trsZ p es)
  | [], [], l, es, h, hes => by
    cases h
    cases es with
    | nil => exact pps_nil
    | cons a r => exact absurd (hes p.z) (by intro q; cases q)
  | some k :: ks, v :: vs, l, es, h, hes => by
    simp only [flatKV, Option.map_eq_some_iff] at h
    obtain ⟨l', h, rfl⟩ := h
    cases es with
    | nil => exact absurd (hes p.z) (by intro q; cases q)
    | cons a r =>
      cases r with
      | nil => exact absurd (hes p.z) (by intro q; cases q with | cons _ q => cases q)
      | cons b r =>
        have h0 : ∀ z', EOK X (p.at z') k a ∧ EOK X (p.at z') v b ∧ EsOK X (p.at z') r l' := fun z' => by
          cases hes z' with
          | cons q1 q =>
            cases q with
            | cons q2 q3 => exact ⟨q1, q2, q3⟩
        exact pps_cons (pe_tarZ fun z' => (h0 z').1.par) (pe_tarZ fun z' => (h0 z').2.1.par) (dct_pps h fun z' => (h0 z').2.2)
  | [], _ :: _, _, _, h, _ => by cases h
  | none :: _, _, _, _, h, _ => by simp [flatKV] at h
  | some _ :: _, [], _, _, h, _ => by simp [flatKV] at h
/-- the pairs behind their parts -/
theorem dct_t {p : Px} {z' : Zo} {σ : L2.St} {X : Cx} (n : Nat) : ∀ {es : Es} {l : List Expr} {H : Hp} {Q : List (V × V) → Hp → Prop}, EsOK X (p.at z') es l → l.length = 2 * n → tag (p.at z') es σ H (fun vs H2 => Q (prs vs) H2) → tPairs (trsZ p es) σ H Q := by
  induction n with
  | zero =>
    intro es l H Q h hl q
    cases h with
    | nil => exact tag_nil q
    | cons _ _ => simp at hl
  | succ n ih =>
    intro es l H Q h hl q
    cases h with
    | nil => simp at hl
    | cons h1 h =>
      cases h with
      | nil => simp at hl; omega
      | cons h2 hr =>
        refine ⟨z', (tag_cons q).mono fun x H1 q => ⟨z', (tag_cons q).mono fun y H2 q => ?_⟩⟩
        exact ih hr (by simp at hl; omega) (q.mono fun vs H3 q => q)
theorem mk_rep {K : PySem.W.Frag} {H : Hp} {F : Zn} {io : List Addr} (n : Nat) : ∀ {vs : List V} {ds : List D} {acc : List (L2.Key × V)} {dac kvs : List (D × D)}, ds.length ≤ n → RepL K H F io vs ds → RepK K H F io acc dac → mkKD dac ds = some kvs →
    ∃ ps : List (L2.Key × V), prs vs = ps.map (fun kv => (kV kv.1, kv.2)) ∧ 2 * ps.length = ds.length ∧ RepK K H F io (mergeK acc ps) kvs := by
  induction n with
  | zero =>
    intro vs ds acc dac kvs hn r ha h
    cases r with
    | nil => simp only [mkKD] at h; cases h; exact ⟨[], rfl, rfl, ha⟩
    | cons _ _ => simp at hn
  | succ n ih =>
    intro vs ds acc dac kvs hn r ha h
    cases r with
    | nil => simp only [mkKD] at h; cases h; exact ⟨[], rfl, rfl, ha⟩
    | @cons v0 vs0 d0 ds0 r1 r =>
      cases r with
      | nil => simp [mkKD] at h
      | @cons w ws d ds r2 r =>
        rw [mkKD] at h
        split at h
        · rename_i hk
          have h1 := (RO.key (.inl r1) hk)
          have ha2 := ha.put (k := d0.toKey) r2
          rw [← key_is hk] at ha2
          obtain ⟨ps, g1, g2, g3⟩ := ih (by simp at hn; omega) r ha2 h
          exact ⟨(d0.toKey, w) :: ps, by simp only [prs, g1, h1, List.map_cons], by simp only [List.length_cons, ← g2]; omega, g3⟩
        · cases h
theorem e_dct {X : Cx} {p : Px} {pos : Pos} {ll : Bool} {es : Es} {ks : List (Option Expr)} {vs l : List Expr} (h0 : flatKV ks vs = some l) (h15 : ks.length ≤ 15) (h : ∀ z', EsOK X (p.at z') es l) : PE X (.Dict ks vs pos) (tev p (.dct ll es)) := by
  obtain ⟨g2, g3, g4⟩ := flat_all h0
  by_cases hk0 : ks = []
  · subst hk0
    cases vs with
    | cons _ _ => cases h0
    | nil =>
      cases h0
      have he := h p.z
      cases es with
      | cons _ _ => cases he
      | nil =>
        refine PE.imp pe_dnewK fun σ H Q ⟨F, io, e, st, s, k⟩ a ha => ?_
        rw [ev, ag] at k
        obtain ⟨r', e2, st2, k, po⟩ := stow_po k (NV.po s (.dic ha .nil))
        exact k _ _ po
  · refine PE.imp (pe_disp (dct_pps h0 h) g2 g3 hk0 h15) fun σ H Q ⟨F, io, e, st, s, k⟩ => ?_
    rw [ev] at k
    intro a ha
    have f := s.fre ha
    have x := ext_new (F := F) (io := io) (o := .dK []) ha s.cel.dom
    have s1 := (s.newObj (o := .dK []) ha).addz f upd_same
    have hi : a ∉ p.z.i0 := fun q => f.i (by obtain ⟨l, e1, _⟩ := s.pre; rw [e1]; exact List.mem_append_left _ q)
    refine dct_t (z' := zadd p.z a (.dK [])) ks.length (h _) g4 ⟨F, io, e, st, s1, k.of_bind.mono (fun as e' st' k vs' H' ⟨F', io', y, s', q⟩ => ?_) fun _ _ _ w => (XW.ext x w).addz f.z hi (fun _ q => by cases q)⟩
    obtain ⟨sz, hH, f'⟩ := SR.prot s' f.z hi (fun _ q => by cases q)
    split at k
    · rename_i ds hds
      split at k
      · rename_i kvs hkv
        split at k
        · rename_i hl
          obtain ⟨F2, y2, s2, r⟩ := s'.fz q hds
          obtain ⟨sz2, hH2, f2⟩ := SR.prot s2 f.z hi (fun _ q => by cases q)
          obtain ⟨ps, e1, e2, e3⟩ := mk_rep ds.length (Nat.le_refl _) r .nil hkv
          refine ⟨hH2, ps, e1, by omega, ?_⟩
          obtain ⟨y3, s3⟩ := sz2.updFre (u := .dK (mergeK [] ps)) f2 hH2 trivial
          obtain ⟨r', e5, st5, k, po⟩ := stow_po k (show PoE p.K p.z F io H _ _ σ (.dic kvs, true) (.ref a) _ from ⟨F2, io', x.trans (y.trans (y2.trans y3)), s3, f2.own upd_same (.dic (e3.ext y3))⟩)
          exact k _ _ po
        · exact k.elim
      · exact k.elim
    · exact k.elim
/-! ## (a, b, *list) -/
theorem stt_pa {X : Cx} {p : Px} {c : E} {ex : Expr} {sp : Pos} (hc : PE X ex (tev p c)) : ∀ {l : List Expr} {es : Es}, EsOK X p es l →
    PA X (l ++ [.Starred ex sp]) (fun σ H Q => tag p es σ H fun vs H1 => tev p c σ H1 fun y H2 => ∃ a xs, y = V.ref a ∧ SqL X.K H2 a xs ∧ Q (vs ++ xs) H2)
  | [], _, .nil => PA.imp (pa_star hc pa_nil) fun σ H Q q => (tag_nil q).mono fun y H2 ⟨a, xs, e1, e2, q⟩ => ⟨a, xs, e1, .inr e2, by show Q (xs ++ []) H2; simpa using q⟩
  | ex2 :: l, _, .cons (c := c2) (r := r) h1 h2 => PA.imp (pa_cons h1.par (stt_pa hc h2) (h1.ns _)) fun σ H Q q => (tag_cons q).mono fun x H1 q => q.mono fun vs H2 q => q.mono fun y H3 q => q
theorem e_stt {X : Cx} {p : Px} {pos sp : Pos} {k0 : Nat} {es : Es} {c : E} {l : List Expr} {ex : Expr} (S : Sok p X) (h : EsOK X p es l) (hc : EOK X p ex c) : PE X (.Tuple (l ++ [.Starred ex sp]) k0 pos) (tev p (.stt es c)) := by
  refine PE.imp (pe_tup (stt_pa hc.pe h)) fun σ H Q ⟨F, io, e, st, s, h⟩ => ?_
  rw [ev] at h
  refine ⟨F, io, e, st, s, h.of_bind.mono (fun as e' st' k vs H' ⟨F', io', y, s', q⟩ => ?_) fun _ _ _ x => x⟩
  refine ⟨F', io', e', st', s', k.of_bind.mono (fun r e2 st2 k w H2 po => ?_) fun _ _ _ x => XW.ext y x⟩
  obtain ⟨F2, io2, y2, s2, q2⟩ := po.frz
  split at k
  · rename_i ds xs hds hr
    split at k
    · rename_i hl
      rw [hr] at q2
      cases q2 with
      | @lst a vs' _ l1 r1 =>
        refine ⟨a, vs', rfl, S.K ▸ l1.sq, ?_⟩
        obtain ⟨F3, y3, s3, r3⟩ := s2.fz (q.ext y2) hds
        have rr := r3.append (r1.ext y3)
        refine ⟨by rw [rr.length, ← sizeMax_eq, List.length_append]; exact hl, fun p hp => k _ _ (PoE.ext (y.trans (y2.trans y3)) (NV.po s3 (.tup hp rr)))⟩
    · exact k.elim
  · exact k.elim
end Pv
namespace Pv
open PySem PySem.Spec PyProof.Rows L2
/-! ## sorted(d), d a dict of ints, any number of them -/
section
variable {X : Cx}
theorem srt_dict (hcalm : X.calm = true) : CallR X (.builtin "sorted") (fun xs H Q => ∃ (a : Addr) (kvs : List (L2.Key × V)) (ks : List Int), xs = [.ref a] ∧ Rd H a (.dK kvs) ∧ kvs.map (·.1) = ks.map Sum.inl ∧ ks.length ≤ sizeLine ∧
    ∀ (ns : List Int) (q : Addr), ns.Perm ks → ns.Pairwise (· ≤ ·) → H q = none → Q (.ref q) (upd H q (.lst (ns.map V.int)))) := by
  intro pins s σ H xs us Q I r w
  obtain ⟨a, kvs, ks, ex, hd, hks, hlen, fin⟩ := w
  subst ex
  obtain ⟨u0, eu0, ru0⟩ := vals1 r
  subst eu0
  cases ru0
  obtain ⟨zz, loD, ents, relD, ddD⟩ := dk_rd I.hok hd
  obtain ⟨epD, hatD⟩ := ddD.dictAt
  have hk2 : ents.map (·.1) = ks.map Sum.inl := relD.keys.symm.trans hks
  have hl : ents.length = ks.length := by simpa using congrArg List.length hk2
  have hz : ents.length ≤ sizeLine := by rw [hl]; exact hlen
  refine Calls.call_function_entry PyProof.Rows.kind_sorted PyProof.Rows.plain_sorted
    PyProof.Rows.entry_sorted (PyProof.Rows.args_sorted1 _) ?_
  unfold Builtin.«sorted»
  refine wpAny_bind (m := checkCount "sorted" 1 1 _)
    (wpAny_pure ?_)
  refine wpAny_bind (PySem.W.kdu_collect (A := X.A.in1)
    (PySem.W.kdl_dict (knd := mixKind X.prog X.w) (kvs := ents) (ep := epD) loD)
    (I.ok.hd hcalm) hatD hz fun h1 tk1 acc kp hacc => ?_)
  have hal : acc.toList.length = ks.length := by rw [Array.length_toList, hacc.1, hl]
  have ia : IntsAre acc.toList ks := ints_each hal fun j v ej => by
    obtain ⟨kk, x, e1, e2⟩ := hacc.2 j v
      (by rw [← Array.getElem?_toList]; exact ej)
    have e3 : (ents.map (·.1))[j]? = some kk := by
      rw [List.getElem?_map, e1]; rfl
    rw [hk2, List.getElem?_map] at e3
    cases e4 : ks[j]? with
    | none => rw [e4] at e3; cases e3
    | some y =>
      rw [e4] at e3
      obtain rfl : Sum.inl y = kk := Option.some.inj e3
      rcases keyIs_shape (show keyIs (Sum.inl y) v = true from e2) with ⟨i, t, ek, ev⟩ | ⟨z, t, ek, ev⟩
      · cases ek
        exact ⟨y, t, rfl, ev⟩
      · cases ek
  have I1 : Inv X pins σ H { s with heap := h1, toks := tk1 } := I.kept kp
  have hz2 : acc.toList.length ≤ sizeLine := by rw [hal]; exact hlen
  refine wpAny_bind (wpAny_newList ?_ hz2)
  have hnew : (h1.push (seqObj "list" acc.toList.toArray 0)).get? h1.objs.size = some (seqObj "list" acc.toList.toArray 0) :=
    Heap.get?_push_size _ rfl
  show wpAny _ _ _ _ _ { s with heap := h1.push (seqObj "list" acc.toList.toArray 0), toks := tk1 }
  refine wpAny_bind (wpAny_holding (wpAny_call_entry PyProof.Rows.slot_list_sort ⟨_, hnew, rfl⟩
    PyProof.Rows.entry_list_sort (SrtO.list_sort_ord
      (s := { s with heap := h1.push (seqObj "list" acc.toList.toArray 0), toks := tk1 }) SrtO.swo_int hnew hz2
      (fun h2 => SrtO.ints_sortable ia h2) fun out g1 g2 => ⟨_, rfl, ?_⟩) (PyProof.Rows.args_list_sort _)))
  obtain ⟨k1, k2, k3⟩ := SrtO.ints_out ia g1 g2
  obtain ⟨ep2, he2⟩ := PyProof.Rows.sortedHeap_at (vs := acc.toList) (out := out.toArray) hnew
  have hl3 : ((out.map SrtO.iv).map V.int).length ≤ sizeLine := by
    rw [List.length_map, k2.length_eq]; exact hlen
  refine wpAny_pure ⟨_, rfl, .ref h1.objs.size, upd H h1.objs.size (.lst ((out.map SrtO.iv).map V.int)),
    I1.laid (t' := tk1) (fun b u e => ?_) (Nat.le_refl _)
      (show ObjOk X.prog X.w _ _ _ (.lst ((out.map SrtO.iv).map V.int)) from ⟨hl3, out, ep2, vals_of_ints k1, he2⟩), rfl,
    fin _ _ k2 k3 (I1.hok.fresh (Nat.le_refl _))⟩
  have hb : b < h1.objs.size := Heap.lt_size e
  rw [PyProof.Rows.sortedHeap_old (Nat.ne_of_lt hb)
    (by rw [size_push']; exact Nat.lt_succ_of_lt hb)]
  exact Heap.get?_push_of_some _ e
end
end Pv
namespace Pv
open PySem PySem.Spec PyProof.Rows L2
section
variable {p : Px} {X : Cx} {es : Es} {c : E} {ex a b : Expr} {l : List Expr} {pos : Pos} {F F' : Zn} {io io' : List Addr} {H H' : Hp} {e : En} {st : Sto} {σ : L2.St}
/-! ### built-in functions -/
def rB (K : PySem.W.Frag) (f : Bf) : List V → Hp → VK → Prop := fun vs H Q => ∃ F io ds r, ROL K H F io vs ds ∧ bltD f ds = some r ∧ ∀ v H', NV K H F io r v H' → Q v H'
theorem CallR.imp {f : Value} {r r' : List V → Hp → VK → Prop} (h : CallR X f r) (i : ∀ x H Q, r' x H Q → r x H Q) : CallR X f r' := fun pins s σ H xs us Q I rs q => h pins s σ H xs us Q I rs (i _ _ _ q)
theorem CallR.orr {f : Value} {r r' : List V → Hp → VK → Prop} (h : CallR X f r) (h' : CallR X f r') : CallR X f (fun x H Q => r x H Q ∨ r' x H Q) := fun pins s σ H xs us Q I rs q => q.elim (h pins s σ H xs us Q I rs) (h' pins s σ H xs us Q I rs)
theorem ROL.none {K : PySem.W.Frag} {vs : List V} (h : ROL K H F io vs []) : vs = [] := by
  match vs, h with
  | [], _ => rfl
theorem ROL.one {K : PySem.W.Frag} {vs : List V} {d : D} (h : ROL K H F io vs [d]) : ∃ v, vs = [v] ∧ RO K H F io v d := by
  match vs, h with
  | [v], ⟨h, _⟩ => exact ⟨v, rfl, h⟩
theorem ROL.two {K : PySem.W.Frag} {vs : List V} {d d' : D} (h : ROL K H F io vs [d, d']) : ∃ v v', vs = [v, v'] ∧ RO K H F io v d ∧ RO K H F io v' d' := by
  match vs, h with
  | [v, v'], ⟨h, h', _⟩ => exact ⟨v, v', rfl, h, h'⟩
theorem call_lenRd : CallR X (.builtin "len") (fun xs H Q => ∃ a kvs, xs = [V.ref a] ∧ Rd H a (.dK kvs) ∧ Q (.int kvs.length) H) := by
  intro pins s σ H xs us Q I r ⟨a, kvs, e, hd, q⟩
  subst e
  cases r with
  | @cons _ u _ us' r1 r2 =>
    cases r2
    obtain rfl : u = Value.ref a := r1
    exact d_len I hd fun t s' I' => ⟨.int kvs.length, H, I', ⟨t, rfl⟩, q⟩
theorem b_len : CallR X (.builtin "len") (rB X.K .len) := by
  refine CallR.imp (Pv.CallR.orr call_len call_lenRd) ?_
  rintro vs H Q ⟨F, io, ds, r, hr, e, q⟩
  unfold bltD at e
  split at e <;> (try contradiction) <;> (try simp only [nul] at e) <;> (try contradiction)
  · cases e
    obtain ⟨v, rfl, h⟩ := hr.one
    obtain ⟨a, xs, rfl, ha, ra⟩ := h.lst
    exact .inl ⟨_, xs.length, rfl, .inl ⟨xs, ha, rfl⟩, by rw [ra.length]; exact q _ _ (.int _)⟩
  · cases e
    obtain ⟨v, rfl, h⟩ := hr.one
    obtain ⟨a, xs, rfl, ha, ra⟩ := h.tup
    exact .inl ⟨_, xs.length, rfl, .inr ⟨xs, ha, rfl⟩, by rw [ra.length]; exact q _ _ (.int _)⟩
  · split at e
    · rename_i hl; cases e
      obtain ⟨v, rfl, h⟩ := hr.one
      rw [h.str]
      exact .inl ⟨_, _, rfl, ⟨by rw [← sizeMax_eq]; exact hl, rfl⟩, q _ _ (.int _)⟩
    · contradiction
  · cases e
    obtain ⟨v, rfl, h⟩ := hr.one
    obtain ⟨a, xs, rfl, ha, ra⟩ := h.dic
    exact .inr ⟨a, xs, rfl, ha, by rw [ra.length]; exact q _ _ (.int _)⟩
theorem b_abs : CallR X (.builtin "abs") (rB X.K .abs) := by
  refine CallR.imp call_abs ?_
  rintro vs H Q ⟨F, io, ds, r, hr, e, q⟩
  unfold bltD at e
  split at e <;> (try contradiction) <;> (try simp only [nul] at e) <;> (try contradiction)
  cases e
  obtain ⟨v, rfl, h⟩ := hr.one
  exact ⟨_, by rw [h.int], q _ _ (.int _)⟩
theorem b_int : CallR X (.type "int") (rB X.K .int) := by
  refine CallR.imp (Pv.CallR.orr call_int1 call_int_str) ?_
  rintro vs H Q ⟨F, io, ds, r, hr, e, q⟩
  unfold bltD at e
  split at e <;> (try contradiction) <;> (try simp only [nul] at e) <;> (try contradiction)
  · cases e
    obtain ⟨v, rfl, h⟩ := hr.one
    exact .inl (.inl ⟨_, by rw [h.int], q _ _ (.int _)⟩)
  · cases e
    obtain ⟨v, rfl, h⟩ := hr.one
    exact .inl (.inr ⟨_, by rw [h.bl], q _ _ (.int _)⟩)
  · split at e
    · rename_i hl
      simp only [Option.map_eq_some_iff] at e
      obtain ⟨i, e, rfl⟩ := e
      obtain ⟨v, rfl, h⟩ := hr.one
      exact .inr ⟨_, _, by rw [h.str], e, hl, q _ _ (.int _)⟩
    · contradiction
theorem b_list (hc : X.calm = true) : CallR X (.type "list") (rB X.K .list) := by
  refine CallR.imp (Pv.CallR.orr call_list_of (call_listD hc)) ?_
  rintro vs H Q ⟨F, io, ds, r, hr, e, q⟩
  unfold bltD at e
  split at e <;> (try contradiction) <;> (try simp only [nul] at e) <;> (try contradiction)
  · cases e
    obtain ⟨v, rfl, h⟩ := hr.one
    obtain ⟨a, xs, rfl, ha, ra⟩ := h.lst
    exact .inl ⟨a, xs, rfl, .inl ha, fun p hp => q _ _ (.lst hp ra)⟩
  · cases e
    obtain ⟨v, rfl, h⟩ := hr.one
    obtain ⟨a, xs, rfl, ha, ra⟩ := h.tup
    exact .inl ⟨a, xs, rfl, .inr ha, fun p hp => q _ _ (.lst hp ra)⟩
  · cases e
    obtain ⟨v, rfl, h⟩ := hr.one
    obtain ⟨a, xs, rfl, ha, ra⟩ := h.dic
    exact .inr ⟨a, xs, rfl, ha, fun p hp => q _ _ (.lst hp ra.keys)⟩
theorem b_tuple : CallR X (.type "tuple") (rB X.K .tuple) := by
  refine CallR.imp call_tuple_of ?_
  rintro vs H Q ⟨F, io, ds, r, hr, e, q⟩
  unfold bltD at e
  split at e <;> (try contradiction) <;> (try simp only [nul] at e) <;> (try contradiction)
  · cases e
    obtain ⟨v, rfl, h⟩ := hr.one
    obtain ⟨a, xs, rfl, ha, ra⟩ := h.lst
    exact ⟨a, xs, rfl, .inl ⟨ha, fun p hp => q _ _ (.tup hp ra)⟩⟩
  · cases e
    obtain ⟨v, rfl, h⟩ := hr.one
    obtain ⟨a, xs, rfl, ha, ra⟩ := h.tup
    exact ⟨a, xs, rfl, .inr ⟨ha, q _ _ (.val (.tup ha ra))⟩⟩
theorem ints_rep {K : PySem.W.Frag} : ∀ {ds : List D} {is : List Int} {vs : List V}, intsD ds = some is → RepL K H F io vs ds → vs = is.map V.int
  | [], _, _, h, r => by cases h; cases r; rfl
  | d :: ds, _, _, h, r => by
    cases r with
    | cons a b =>
      cases d <;> simp only [intsD] at h <;> try contradiction
      simp only [Option.map_eq_some_iff] at h
      obtain ⟨is, h, rfl⟩ := h
      cases a
      rw [ints_rep h b]; rfl
theorem mxI_ge : ∀ (is : List Int) (i : Int), i ≤ mxI i is ∧ ∀ y ∈ is, y ≤ mxI i is
  | [], i => ⟨Int.le_refl _, by simp⟩
  | x :: r, i => by
    have h := mxI_ge r (if x > i then x else i)
    have e : mxI i (x :: r) = mxI (if x > i then x else i) r := rfl
    rw [e]
    have k : i ≤ (if x > i then x else i) ∧ x ≤ (if x > i then x else i) := by split <;> omega
    refine ⟨by have := h.1; omega, fun y hy => ?_⟩
    rcases List.mem_cons.mp hy with rfl | hy
    · have := h.1; omega
    · exact h.2 y hy
theorem mxI_mem : ∀ (is : List Int) (i : Int), mxI i is ∈ i :: is
  | [], i => by simp [mxI]
  | x :: r, i => by
    have h := mxI_mem r (if x > i then x else i)
    have e : mxI i (x :: r) = mxI (if x > i then x else i) r := rfl
    rw [e]
    rcases List.mem_cons.mp h with h | h
    · rw [h]; split <;> simp
    · simp [h]
theorem mxI_uniq {i : Int} {is : List Int} {m : Int} (h1 : m ∈ i :: is) (h2 : ∀ y, y ∈ i :: is → y ≤ m) : m = mxI i is := by
  have a := h2 _ (mxI_mem is i)
  have g := mxI_ge is i
  rcases List.mem_cons.mp h1 with q | q
  · subst q; omega
  · have := g.2 _ q; omega
theorem b_max (hc : X.calm = true) : CallR X (.builtin "max") (rB X.K .max) := by
  refine CallR.imp (Pv.CallR.orr (call_max2 hc) (cr_max hc)) ?_
  rintro vs H Q ⟨F, io, ds, r, hr, e, q⟩
  unfold bltD at e
  split at e <;> (try contradiction) <;> (try simp only [nul] at e) <;> (try contradiction)
  · cases e
    obtain ⟨v, v', rfl, h, h'⟩ := hr.two
    exact .inl ⟨_, _, by rw [h.int, h'.int], q _ _ (.int _)⟩
  · simp only [Option.bind_eq_some_iff] at e
    obtain ⟨is, hi, e⟩ := e
    cases is with
    | nil => cases e
    | cons i is =>
      cases e
      obtain ⟨v, rfl, h⟩ := hr.one
      obtain ⟨a, xs, rfl, ha, ra⟩ := h.lst
      have e2 := ints_rep hi ra
      subst e2
      exact .inr ⟨a, _, rfl, ha, by simp, fun m h1 h2 => by rw [mxI_uniq h1 h2]; exact q _ _ (.int _)⟩
theorem b_min (hc : X.calm = true) : CallR X (.builtin "min") (rB X.K .min) := by
  refine CallR.imp (call_min2 hc) ?_
  rintro vs H Q ⟨F, io, ds, r, hr, e, q⟩
  unfold bltD at e
  split at e <;> (try contradiction) <;> (try simp only [nul] at e) <;> (try contradiction)
  cases e
  obtain ⟨v, v', rfl, h, h'⟩ := hr.two
  exact ⟨_, _, by rw [h.int, h'.int], q _ _ (.int _)⟩
theorem bls_rep {K : PySem.W.Frag} : ∀ {ds : List D} {is : List Bool} {vs : List V}, blsD ds = some is → RepL K H F io vs ds → vs = is.map V.bl
  | [], _, _, h, r => by cases h; cases r; rfl
  | d :: ds, _, _, h, r => by
    cases r with
    | cons a b =>
      cases d <;> simp only [blsD] at h <;> try contradiction
      simp only [Option.map_eq_some_iff] at h
      obtain ⟨is, h, rfl⟩ := h
      cases a
      rw [bls_rep h b]; rfl
theorem rep_int {K : PySem.W.Frag} : ∀ ns : List Int, RepL K H F io (ns.map V.int) (ns.map D.int)
  | [] => .nil
  | n :: r => .cons (.int n) (rep_int r)
theorem insI_perm (i : Int) : ∀ l : List Int, (insI i l).Perm (i :: l)
  | [] => .refl _
  | j :: r => by
    unfold insI
    split
    · exact .refl _
    · exact ((insI_perm i r).cons j).trans (.swap i j r)
theorem sortI_perm : ∀ l : List Int, (sortI l).Perm l
  | [] => .refl _
  | i :: r => (insI_perm i _).trans ((sortI_perm r).cons i)
theorem insI_pw (i : Int) : ∀ {l : List Int}, l.Pairwise (· ≤ ·) → (insI i l).Pairwise (· ≤ ·)
  | [], _ => by simp [insI]
  | j :: r, h => by
    unfold insI
    split
    · rename_i hij
      refine List.pairwise_cons.mpr ⟨fun x hx => ?_, h⟩
      rcases List.mem_cons.mp hx with rfl | hx
      · exact hij
      · exact Int.le_trans hij ((List.pairwise_cons.mp h).1 x hx)
    · rename_i hij
      obtain ⟨h1, h2⟩ := List.pairwise_cons.mp h
      refine List.pairwise_cons.mpr ⟨fun x hx => ?_, insI_pw i h2⟩
      rcases List.mem_cons.mp ((insI_perm i r).mem_iff.mp hx) with rfl | hx
      · omega
      · exact h1 x hx
theorem sortI_pw : ∀ l : List Int, (sortI l).Pairwise (· ≤ ·)
  | [] => .nil
  | i :: r => insI_pw i (sortI_pw r)
theorem sortI_of {l m : List Int} (p : m.Perm l) (s : m.Pairwise (· ≤ ·)) : m = sortI l :=
  (p.trans (sortI_perm l).symm).eq_of_pairwise (fun _ _ _ _ h1 h2 => Int.le_antisymm h1 h2) s (sortI_pw l)
theorem b_sum (hc : X.calm = true) : CallR X (.builtin "sum") (rB X.K .sum) := by
  refine CallR.imp (cr_sum hc) ?_
  rintro vs H Q ⟨F, io, ds, r, hr, e, q⟩
  unfold bltD at e
  split at e <;> (try contradiction) <;> (try simp only [nul] at e) <;> (try contradiction)
  simp only [Option.map_eq_some_iff] at e
  obtain ⟨is, e, rfl⟩ := e
  obtain ⟨v, rfl, h⟩ := hr.one
  obtain ⟨a, xs, rfl, ha, ra⟩ := h.lst
  rw [ints_rep e ra] at ha
  exact ⟨a, is, rfl, ha, q _ _ (.int _)⟩
theorem keys_rep {K : PySem.W.Frag} {H : Hp} {F : Zn} {io : List Addr} : ∀ {kvs : List (L2.Key × V)} {ds : List (D × D)} {is : List Int}, RepK K H F io kvs ds → intsD (ds.map (·.1)) = some is → kvs.map (·.1) = is.map Sum.inl
  | _, _, is, .nil, h => by cases h; rfl
  | _, _, is, @RepK.cons _ _ _ _ k v kvs c d ds e r rs, h => by
    subst e
    cases k with
    | inr x => simp [keyD, intsD] at h
    | inl i =>
      simp only [List.map_cons, keyD, intsD, Option.map_eq_some_iff] at h
      obtain ⟨js, h1, rfl⟩ := h
      simp only [List.map_cons]
      rw [keys_rep rs h1]
theorem b_sorted (hcalm : X.calm = true) : CallR X (.builtin "sorted") (rB X.K .sorted) := by
  refine CallR.imp (Pv.CallR.orr cr_sortedI (srt_dict hcalm)) ?_
  rintro vs H Q ⟨F, io, ds, r, hr, e, q⟩
  unfold bltD at e
  split at e <;> (try contradiction) <;> (try simp only [nul] at e) <;> (try contradiction)
  · simp only [Option.map_eq_some_iff] at e
    obtain ⟨is, e, rfl⟩ := e
    obtain ⟨v, rfl, h⟩ := hr.one
    obtain ⟨a, xs, rfl, ha, ra⟩ := h.lst
    rw [ints_rep e ra] at ha
    exact .inl ⟨a, is, rfl, ha, fun ns' p hp hs hn => q _ _ (.lst hn (by rw [sortI_of hp hs]; exact rep_int _))⟩
  · simp only [Option.bind_eq_some_iff] at e
    obtain ⟨is, e1, e⟩ := e
    split at e <;> try cases e
    rename_i hl
    obtain ⟨v, rfl, h⟩ := hr.one
    obtain ⟨a, xs, rfl, ha, ra⟩ := h.dic
    exact .inr ⟨a, xs, is, rfl, ha, keys_rep ra e1, by rw [← sizeMax_eq]; exact hl, fun ns' p hp hs hn => q _ _ (.lst hn (by rw [sortI_of hp hs]; exact rep_int _))⟩
theorem b_all (hc : X.calm = true) : CallR X (.builtin "all") (rB X.K .all) := by
  refine CallR.imp (cr_all hc) ?_
  rintro vs H Q ⟨F, io, ds, r, hr, e, q⟩
  unfold bltD at e
  split at e <;> (try contradiction) <;> (try simp only [nul] at e) <;> (try contradiction)
  simp only [Option.map_eq_some_iff] at e
  obtain ⟨is, e, rfl⟩ := e
  obtain ⟨v, rfl, h⟩ := hr.one
  obtain ⟨a, xs, rfl, ha, ra⟩ := h.lst
  rw [bls_rep e ra] at ha
  exact ⟨a, is, rfl, ha, q _ _ (.bl _)⟩
theorem b_any (hc : X.calm = true) : CallR X (.builtin "any") (rB X.K .any) := by
  refine CallR.imp (cr_any hc) ?_
  rintro vs H Q ⟨F, io, ds, r, hr, e, q⟩
  unfold bltD at e
  split at e <;> (try contradiction) <;> (try simp only [nul] at e) <;> (try contradiction)
  simp only [Option.map_eq_some_iff] at e
  obtain ⟨is, e, rfl⟩ := e
  obtain ⟨v, rfl, h⟩ := hr.one
  obtain ⟨a, xs, rfl, ha, ra⟩ := h.lst
  rw [bls_rep e ra] at ha
  exact ⟨a, is, rfl, ha, q _ _ (.bl _)⟩
theorem b_str : CallR X (.type "str") (rB X.K .str) := by
  refine CallR.imp (Pv.CallR.orr call_str_int SkE.call_str_str) ?_
  rintro vs H Q ⟨F, io, ds, r, hr, e, q⟩
  unfold bltD at e
  split at e <;> (try contradiction) <;> (try simp only [nul] at e) <;> (try contradiction)
  · split at e
    · rename_i hl; cases e
      obtain ⟨v, rfl, h⟩ := hr.one
      exact .inl ⟨_, by rw [h.int], hl, q _ _ (.str _)⟩
    · contradiction
  · cases e
    obtain ⟨v, rfl, h⟩ := hr.one
    exact .inr ⟨_, by rw [h.str], q _ _ (.str _)⟩
theorem b_dict : CallR X (.type "dict") (rB X.K .dict) := by
  refine CallR.imp call_dictD ?_
  rintro vs H Q ⟨F, io, ds, r, hr, e, q⟩
  unfold bltD at e
  split at e <;> (try contradiction) <;> (try simp only [nul] at e) <;> (try contradiction)
  cases e
  obtain ⟨v, rfl, h⟩ := hr.one
  obtain ⟨a, xs, rfl, ha, ra⟩ := h.dic
  exact ⟨a, xs, rfl, ha, fun p hp => q _ _ (.dic hp ra)⟩
theorem RO.ty {K : PySem.W.Frag} {v : V} {d : D} {n : String} (h : RO K H F io v d) (q : tyD d = some n) : TyX K H v (.type n) := by
  cases d <;> simp only [tyD] at q <;> try contradiction
  · cases q; rw [h.none]; exact .base .non
  · cases q; rw [h.bl]; exact .base (.bl _)
  · cases q; rw [h.int]; exact .base (.int _)
  · cases q; rw [h.str]; exact .base (.str _)
  · cases q
    obtain ⟨a, xs, rfl, ha, _⟩ := h.tup
    rcases ha with (ha | ⟨o, ha⟩) | ⟨o, its, n, h1, h2, _⟩
    · exact .base (.tup ha)
    · exact .fTuple ha
    · exact .kTuple h1 h2
  · cases q
    obtain ⟨a, xs, rfl, ha, _⟩ := h.lst
    rcases ha with (ha | ⟨o, ha⟩) | ⟨o, its, n, h1, h2, _⟩
    · exact .base (.lst ha)
    · exact .base (.frz ha)
    · exact .kList h1 h2
  · cases q
    obtain ⟨a, xs, rfl, ha, _⟩ := h.dic
    rcases ha with ha | ⟨o, ha⟩
    · exact .base (.dK ha)
    · exact .fDict ha
theorem tyD_mem {d : D} {m : String} (h : tyD d = some m) : m ∈ ["NoneType", "bool", "int", "str", "tuple", "list", "dict"] := by
  cases d <;> simp only [tyD] at h <;> first | contradiction | (cases h; decide)
theorem kit_all : ∀ m ∈ ["NoneType", "bool", "int", "str", "tuple", "list", "dict"], kitB m "int" = some (m == "int" || m == "bool") ∧ kitB m "bool" = some (m == "bool") ∧ kitB m "str" = some (m == "str") ∧ kitB m "tuple" = some (m == "tuple") ∧ kitB m "list" = some (m == "list") ∧ kitB m "dict" = some (m == "dict") := by decide +kernel
theorem kit_tab {K : PySem.W.Frag} {n : String} {d : D} {b : Bool} (h : typeOK n d = some b) : ∃ m, tyD d = some m ∧ PySem.W.kitOne K (.type m) (.type n) = some b := by
  unfold typeOK at h
  simp only [Option.bind_eq_some_iff] at h
  obtain ⟨m, hm, h⟩ := h
  obtain ⟨k1, k2, k3, k4, k5, k6⟩ := kit_all m (tyD_mem hm)
  refine ⟨m, hm, kit_ty ?_⟩
  split at h
  · rename_i e; subst e; rw [k1]; exact h
  · split at h
    · rename_i e; subst e; rw [k2]; exact h
    · split at h
      · rename_i e; subst e; rw [k3]; exact h
      · split at h
        · rename_i e; subst e; rw [k4]; exact h
        · split at h
          · rename_i e; subst e; rw [k5]; exact h
          · split at h
            · rename_i e; subst e; rw [k6]; exact h
            · contradiction
/-- isinstance(x, (A, B, ..)), the tuple of any kind -/
theorem call_isiQ : CallR X (.builtin "isinstance") (fun xs H Q => ∃ (x : V) (tp : Addr) (cs : List V) (t : Value) (us : List Value) (b : Bool), xs = [x, .ref tp] ∧ SqT X.K H tp cs ∧ Paired ClsV cs us ∧ TyX X.K H x t ∧ PySem.W.kitAny X.K t us = some b ∧ Q (.bl b) H) := by
  intro pins s σ H xs us Q I r h
  obtain ⟨x, tp, cs, t, ws, b, rfl, hT, k, ty, e, q⟩ := h
  obtain ⟨u1, u2, rfl, r1, r2⟩ := vals2 r
  cases (show u2 = Value.ref tp from r2)
  obtain ⟨P, Z, p, hx⟩ := kit_of I r1 ty
  rcases hT with hT | ⟨o, its, n, h1, h2, h3, h4, rv⟩
  · obtain ⟨_, its, rv, o, h1, h2, n, h3⟩ := (show ObjOk X.prog X.w H s.heap tp (.tup cs) from hT.ok I.hok)
    have e3 := ClsV.all k rv
    subst e3
    obtain ⟨oc, od, dt, sl⟩ := o
    simp only at h2 h3
    subst h2 h3
    exact PySem.W.kia_tup Z I.kIn p h1 e hx fun tk => ⟨.bl b, H, I.tok tk, rfl, q⟩
  · have e3 := ClsV.all k rv
    obtain ⟨oc, od, dt, sl⟩ := o
    simp only at h2 h3
    subst h2 h3
    refine PySem.W.kia_tup (its := its.toList) Z I.kIn p (I.kIn _ _ (by simpa using h1)) (by rw [e3]; exact e) hx fun tk => ⟨.bl b, H, I.tok tk, rfl, q⟩
theorem types_rep {K : PySem.W.Frag} {d : D} {m : String} (hm : tyD d = some m) : ∀ {ts : List D} {cs : List V} {b : Bool}, typeT ts d = some b → RepL K H F io cs ts → ∃ us, Paired ClsV cs us ∧ PySem.W.kitAny K (.type m) us = some b
  | [], _, b, h, r => by
    cases r
    simp only [typeT, Option.map_eq_some_iff] at h
    obtain ⟨_, _, rfl⟩ := h
    exact ⟨[], .nil, kitAny_nil⟩
  | t :: ts, _, b, h, r => by
    cases r with
    | cons r1 r =>
      cases t <;> simp only [typeT] at h <;> try contradiction
      rename_i n
      simp only [Option.bind_eq_some_iff, Option.map_eq_some_iff] at h
      obtain ⟨a, h1, b', h2, rfl⟩ := h
      obtain ⟨us, g1, g2⟩ := types_rep hm h2 r
      obtain ⟨m', k1, k2⟩ := kit_tab (K := K) h1
      rw [hm] at k1; cases k1
      cases r1
      exact ⟨.type n :: us, .cons (.ty n) g1, kitAny_cons k2 (fun e => by rw [e, Bool.false_or]; exact g2) fun e => by rw [e, Bool.true_or]⟩
theorem typeT_ty (X : Cx) {ts : List D} {d : D} {b : Bool} (h : typeT ts d = some b) : ∃ m, tyD d = some m := by
  cases ts with
  | nil =>
    simp only [typeT, Option.map_eq_some_iff] at h
    obtain ⟨m, h, _⟩ := h
    exact ⟨m, h⟩
  | cons t ts =>
    cases t <;> simp only [typeT] at h <;> try contradiction
    simp only [Option.bind_eq_some_iff] at h
    obtain ⟨a, h1, _⟩ := h
    obtain ⟨m, k1, _⟩ := kit_tab (K := X.K) h1
    exact ⟨m, k1⟩
theorem b_isi : CallR X (.builtin "isinstance") (rB X.K .isi) := by
  refine CallR.imp (Pv.CallR.orr call_isi call_isiQ) ?_
  rintro vs H Q ⟨F, io, ds, r, hr, e, q⟩
  unfold bltD at e
  split at e <;> (try contradiction) <;> (try simp only [nul] at e) <;> (try contradiction)
  · rename_i d n _
    simp only [Option.map_eq_some_iff] at e
    obtain ⟨b, e, rfl⟩ := e
    obtain ⟨v, v', rfl, h, h'⟩ := hr.two
    obtain ⟨m, g1, g2⟩ := kit_tab (K := X.K) e
    have hv : v' = .ty n := by
      rcases h' with h' | ⟨_, _, _, _, q⟩
      · cases h'; rfl
      · cases q
    subst hv
    exact .inl ⟨v, _, _, _, b, rfl, .ty n, h.ty g1, g2, q _ _ (.bl _)⟩
  · rename_i d ts _
    simp only [Option.map_eq_some_iff] at e
    obtain ⟨b, e, rfl⟩ := e
    obtain ⟨v, v', rfl, h, h'⟩ := hr.two
    obtain ⟨tp, cs, rfl, hs, rs⟩ := h'.tup
    obtain ⟨m, hm⟩ := typeT_ty X e
    obtain ⟨us, g1, g2⟩ := types_rep hm e rs
    exact .inr ⟨v, tp, cs, _, us, b, rfl, hs, g1, h.ty hm, g2, q _ _ (.bl _)⟩
/-- built-ins that no except suite may call -/
def hotF : Bf → Bool
  | .list | .max | .min | .all | .any | .sum | .sorted => true
  | _ => false
/-- a call of a built-in -/
theorem e_blt_of {x : Str} {f : Bf} {pp : Pos} (S : Sok p X) (h : PE X (.Call (.Name x pp) l [] pos) (tCB (rB X.K f) (tag p es))) : PE X (.Call (.Name x pp) l [] pos) (tev p (.blt f es)) := by
  refine PE.imp h fun σ H Q ⟨F, io, e, st, s, h⟩ => ?_
  rw [ev] at h
  refine (op_tag s h).mono fun vs H1 q => ?_
  obtain ⟨F2, io2, ds, r, hr, hg, k⟩ := q
  exact ⟨F2, io2, ds, r, S.K ▸ hr, hg, fun v H' nv => k v H' (S.K ▸ nv)⟩
theorem EsOK.head {ex : Expr} (h : EsOK X p es (ex :: l)) : starEach (ex :: l) X.env = (false, eval ex X.env) :: starEach l X.env := by
  cases h with
  | cons h1 _ => exact h1.ns l
theorem EsOK.tail {ex : Expr} (h : EsOK X p es (ex :: l)) (pos : Pos) : (backTo pos (starEach l X.env)).any (·.1) = false := by
  cases h with
  | cons _ h2 => exact h2.pes.plain pos
theorem e_blt {f : Bf} {pp : Pos} (S : Sok p X) (hq : hotF f = true → p.hot = false) (hg : Gl X f.name) (h : EsOK X p es (ex :: l)) :
    PE X (.Call (.Name f.name pp) (ex :: l) [] pos) (tev p (.blt f es)) := by
  have hm : X.mg f.name = none := S.blt _ (by cases f <;> simp [Bf.name, bltAll])
  have pa := h.pes.pa
  have hh := h.head
  have ht := h.tail pos
  cases f
  · exact e_blt_of S (pe_callB b_len hg hm PySem.boot_len pa (by decide) (by decide) hh ht)
  · exact e_blt_of S (pe_callB b_abs hg hm (by decide +kernel) pa (by decide) (by decide) hh ht)
  · exact e_blt_of S (pe_callTy b_int hg hm (by decide +kernel) pa (by decide) (by decide) hh ht)
  · exact e_blt_of S (pe_callTy (b_list (S.calm (hq rfl))) hg hm (by decide +kernel) pa (by decide) (by decide) hh ht)
  · exact e_blt_of S (pe_callTy b_tuple hg hm (by decide +kernel) pa (by decide) (by decide) hh ht)
  · exact e_blt_of S (pe_callB (b_max (S.calm (hq rfl))) hg hm (by decide +kernel) pa (by decide) (by decide) hh ht)
  · exact e_blt_of S (pe_callB (b_min (S.calm (hq rfl))) hg hm (by decide +kernel) pa (by decide) (by decide) hh ht)
  · exact e_blt_of S (pe_callB b_isi hg hm (by decide +kernel) pa (by decide) (by decide) hh ht)
  · exact e_blt_of S (pe_callB (b_all (S.calm (hq rfl))) hg hm (by decide +kernel) pa (by decide) (by decide) hh ht)
  · exact e_blt_of S (pe_callB (b_any (S.calm (hq rfl))) hg hm (by decide +kernel) pa (by decide) (by decide) hh ht)
  · exact e_blt_of S (pe_callB (b_sum (S.calm (hq rfl))) hg hm (by decide +kernel) pa (by decide) (by decide) hh ht)
  · exact e_blt_of S (pe_callB (b_sorted (S.calm (hq rfl))) hg hm (by decide +kernel) pa (by decide) (by decide) hh ht)
  · exact e_blt_of S (pe_callTy b_str hg hm (by decide +kernel) pa (by decide) (by decide) hh ht)
  · exact e_blt_of S (pe_callTy b_dict hg hm (by decide +kernel) pa (by decide) (by decide) hh ht)
/-! ### the text's own defs -/
theorem e_call {x : Str} {pp : Pos} {pu : Bool} (S : Sok p X) (hdn : p.dn x = true) (hg : Gl X x) (hdb : (x == ("__debug__" : Str)) = false) (h : EsOK X p es l) : PE X (.Call (.Name x pp) l [] pos) (tev p (.call pu x es)) := by
  obtain ⟨a, fd, ps, k, hm, Fn, hr, hk, hb⟩ := S.tab x hdn
  have go : ∀ {t : TA}, (∀ σ H Q, tev p (.call pu x es) σ H Q → tag p es σ H fun vs H1 => spT X.K X.mg (p.B x) vs H1 Q (WE p.W σ)) → PE X (.Call (.Name x pp) l [] pos) (tev p (.call pu x es)) := by
    intro t i
    cases l with
    | nil =>
      refine ⟨fun pins s σ H Q I q => ?_⟩
      refine wpAny_Call_Name_kw (ld_glob I hg hm ?_ hdb)
      have q2 := i σ H Q q
      cases h
      exact PySem.W.callWith_K0 I.kIn hk (run_fnS (us := []) Fn hr hb (passAt S.tk σ) I .nil (tag_nil q2))
    | cons ex l =>
      exact PE.imp (pe_callS Fn hr hg hm hk hb (fun σ => passAt S.tk σ) h.pes.pa hdb h.head (h.tail pos)) fun σ H Q q => i σ H Q q
  refine go (t := tag p es) fun σ H Q ⟨F, io, e, st, s, h⟩ => ?_
  rw [ev] at h
  refine ⟨F, io, e, st, s, h.of_bind.mono (fun as e' st' k vs H' ⟨F', io', y, s', q⟩ => ?_) fun _ _ _ x => x⟩
  split at k
  · rename_i ds hds
    obtain ⟨F2, y2, s2, r⟩ := s'.fz q hds
    rw [S.K, S.mg]
    split at k
    · split at k
      · rename_i hn
        -- pure
        refine ⟨F2, [], ds, [], s2.cel.pure, r.nol [] hn, ?_⟩
        unfold callP at k
        split at k
        · rename_i d w st2 hB
          try rw [hB]
          intro v H2 po
          split at k
          · rename_i ht
            exact k v H2 (PoE.ext y (s'.callT ht po))
          · split at k
            · rename_i hn2
              exact k v H2 (PoE.ext (y.trans y2) (s2.callN hn2 po))
            · split at k
              · rename_i d' hr
                exact k v H2 (PoE.ext (y.trans y2) (s2.callV hr po))
              · exact k.elim
        · rename_i x st2 hB
          try rw [hB]
          intro cls dd H2 ⟨F3, io3, x3, c3, xr⟩
          split at k
          · rename_i ha
            have gr : ∀ a u, H' a = some u → H2 a = some u := fun a u q => x3.frm a u q (by simp)
            exact k cls dd H2 ⟨F', io', y.trans (ext_grow gr), s'.grow gr, xr.atoms ha fun a h => x3.ff a (y2.ff a h)⟩
          · exact k.elim
        · exact k.elim
      · exact k.elim
    · refine ⟨F2, io', ds, st', s2.cel, r, ?_⟩
      unfold callS at k
      split at k
      · rename_i d w st2 hB
        try rw [hB]
        intro v H2 po
        exact k v H2 (PoE.ext (y.trans y2) (s2.callR po))
      · rename_i x st2 hB
        try rw [hB]
        intro cls dd H2 ⟨F3, io3, x3, c3, xr⟩
        exact k cls dd H2 ⟨F3, io3, (y.trans y2).trans (x3.ext s2.cel), s2.call x3 c3, xr⟩
      · exact k.elim
  · exact k.elim
end
end Pv
namespace Pv
open PySem PySem.Spec PyProof.Rows L2
theorem list_extendW (l : Addr) (items : Array Value) (n : Nat) (b : Addr) (items2 : Array Value) (n2 : Nat) (dd2 : Option Addr) (sl2 : Array (Option Value)) (hc0 : ¬(!items.isEmpty && Builtin.List.listTooLong (items.size + items2.size)) = true) (hc1 : items.size ≤ sizeLine) (hs2 : items.size + items2.size ≤ sizeLine + 1) :
    Meets (Builtin.«list.extend» ⟨[.ref l, .ref b], []⟩) (fun _ R s => s.heap.get? l = some { cls := .type "list", dict := none, data := .seq items n, slots := #[] } ∧ s.heap.get? b = some { cls := .type "list", dict := dd2, data := .seq items2 n2, slots := sl2 } ∧ R (.ok (.ret Value.none)) { s with heap := s.heap.update l (Obj.mapSeq fun x => x ++ items2), toks := s.toks }) :=
  .of_wp fun prog w A R s h => by
    obtain ⟨hp, g, d, tk, os⟩ := s; obtain ⟨hl, hb, h⟩ := h; have f1 := AutoSeq1.idx_int; have f2 := AutoSeq1.sub_tuple_tuple; have f3 := AutoSeq1.sub_list_list; have f4 := AutoSeq1.sub_tuple_list; have f5 := AutoSeq1.sub_list_tuple
    have hz' : (items ++ items2).size ≤ sizeLine + 1 := by rw [Array.size_append]; exact hs2
    wp_walk using (wpAny_updateSeq hl rfl (hz := hc1) (_hz' := hz')), AutoSeq1.wpAny_loadPart' hl, AutoSeq1.wpAny_loadPart' hb
    exact ⟨_, rfl, h⟩
theorem list_extendWT (l : Addr) (items : Array Value) (n : Nat) (b : Addr) (items2 : Array Value) (n2 : Nat) (dd2 : Option Addr) (sl2 : Array (Option Value)) (hc0 : ¬(!items.isEmpty && Builtin.List.listTooLong (items.size + items2.size)) = true) (hc1 : items.size ≤ sizeLine) (hs2 : items.size + items2.size ≤ sizeLine + 1) :
    Meets (Builtin.«list.extend» ⟨[.ref l, .ref b], []⟩) (fun _ R s => s.heap.get? l = some { cls := .type "list", dict := none, data := .seq items n, slots := #[] } ∧ s.heap.get? b = some { cls := .type "tuple", dict := dd2, data := .seq items2 n2, slots := sl2 } ∧ R (.ok (.ret Value.none)) { s with heap := s.heap.update l (Obj.mapSeq fun x => x ++ items2), toks := s.toks }) :=
  .of_wp fun prog w A R s h => by
    obtain ⟨hp, g, d, tk, os⟩ := s; obtain ⟨hl, hb, h⟩ := h; have f1 := AutoSeq1.idx_int; have f2 := AutoSeq1.sub_tuple_tuple; have f3 := AutoSeq1.sub_list_list; have f4 := AutoSeq1.sub_tuple_list; have f5 := AutoSeq1.sub_list_tuple
    have hz' : (items ++ items2).size ≤ sizeLine + 1 := by rw [Array.size_append]; exact hs2
    wp_walk using (wpAny_updateSeq hl rfl (hz := hc1) (_hz' := hz')), AutoSeq1.wpAny_loadPart' hl, AutoSeq1.wpAny_loadPart' hb
    exact ⟨_, rfl, h⟩
section
variable {p : Px} {X : Cx} {es : Es} {c : E} {ex a b : Expr} {l : List Expr} {pos : Pos} {F F' : Zn} {io io' : List Addr} {H H' : Hp} {e : En} {st : Sto} {σ : L2.St}
/-- xs.extend(ys) -/
theorem m_extendQ : MtR X "list.extend" (fun x vs H Q => ∃ l b xs zs, x = .ref l ∧ vs = [.ref b] ∧ H l = some (.lst xs) ∧ (SqL X.K H b zs ∨ SqT X.K H b zs) ∧ xs.length + zs.length ≤ sizeLine ∧ Q .non (upd H l (.lst (xs ++ zs)))) := by
  intro pins s σ H x vs v us Q I rx rv h
  obtain ⟨l, b, xs, zs, rfl, rfl, hH, hB, hz, q⟩ := h
  cases rx
  obtain ⟨u, rfl, ru⟩ := rv.one
  cases ru
  obtain ⟨z, its, n, r, hl, e⟩ := I.lstM hH
  have fin : ∀ its2 : List Value, Vals zs its2 → EP X pins σ Q .none { s with heap := s.heap.update l (Obj.mapSeq fun x => x ++ its2.toArray), toks := s.toks } := fun its2 r2 => by
    refine ⟨.non, _, I.lset (its' := its ++ its2) hH e (by simp) (r.append r2) ?_, rfl, q⟩
    rw [List.length_append]
    omega
  rcases hB with hB | hB
  · obtain ⟨its2, r2, ⟨⟨c2, d2, dt2, sl2⟩, n2, e2, hc2, hdd2, hd2⟩, z2⟩ := I.list hB
    simp only at hc2 hd2
    subst hc2 hd2
    have hl2 := r2.length
    have hsz : its.toArray.size + its2.toArray.size ≤ sizeLine := by rw [List.size_toArray, List.size_toArray]; omega
    have hlong : ¬ (!its.toArray.isEmpty && Builtin.List.listTooLong (its.toArray.size + its2.toArray.size)) = true := by
      rw [notLongL hsz, Bool.and_false]
      exact Bool.false_ne_true
    exact call_meets F.slot_list_extend ⟨_, e, rfl⟩ F.entry_list_extend (F.args_list_extend_2 _ _) (list_extendW l its.toArray n b its2.toArray n2 d2 sl2 hlong (by rw [List.size_toArray]; omega) (by omega)) ⟨e, e2, fin its2 r2⟩
  · obtain ⟨its2, r2, ⟨⟨c2, d2, dt2, sl2⟩, e2, hc2, n2, hd2⟩, z2⟩ := I.tuple hB
    simp only at hc2 hd2
    subst hc2 hd2
    have hl2 := r2.length
    have hsz : its.toArray.size + its2.toArray.size ≤ sizeLine := by rw [List.size_toArray, List.size_toArray]; omega
    have hlong : ¬ (!its.toArray.isEmpty && Builtin.List.listTooLong (its.toArray.size + its2.toArray.size)) = true := by
      rw [notLongL hsz, Bool.and_false]
      exact Bool.false_ne_true
    exact call_meets F.slot_list_extend ⟨_, e, rfl⟩ F.entry_list_extend (F.args_list_extend_2 _ _) (list_extendWT l its.toArray n b its2.toArray n2 d2 sl2 hlong (by rw [List.size_toArray]; omega) (by omega)) ⟨e, e2, fin its2 r2⟩
/-! ### methods -/
/-- x is of the type T -/
def TyIs (X : Cx) (T : String) (x : V) (H : Hp) : Prop := ∀ {pins : List (Addr × Obj)} {σ : L2.St} {s : Shared} {v : Value}, Inv X pins σ H s → RelV x v → s.TypeIs v T ∧ ∀ a, v = .ref a → ∃ ob, s.heap.get? a = some ob ∧ ob.dict = none
theorem tyIs_lst {K : PySem.W.Frag} {v : V} {d : D} (hK : X.K = K) (h : RO K H F io v d) (k : kindD d = some .lst) : TyIs X "list" v H := fun I r => tyV_is I r (hK ▸ ro_lst h k)
theorem tyIs_dic {K : PySem.W.Frag} {v : V} {d : D} (h : RO K H F io v d) (k : kindD d = some .dic) : TyIs X "dict" v H := fun I r => by
  obtain ⟨a, rfl, hd⟩ := ro_dic h k
  cases r
  obtain ⟨h1, h2, _⟩ := isD_at I hd
  exact ⟨h1, h2⟩
theorem tyIs_str {K : PySem.W.Frag} {v : V} {d : D} (hK : X.K = K) (h : RO K H F io v d) (k : kindD d = some .str) : TyIs X "str" v H := fun I r => by
  cases d <;> simp [kindD] at k
  rw [h.str] at r
  exact tyV_is (x := .str _) I r rfl
/-- a method of the type T that is served -/
structure MtS (X : Cx) (T : String) (m : Str) (r : V → List V → Hp → VK → Prop) : Prop where
  pa : PySem.PlainAttrs T
  ex : ∃ id, PySem.Slot T m id ∧ PySem.typeOf (.builtin id) = pure (.type "method_descriptor") ∧ MtR X id r
/-- o.m(args), the type known behind the receiver -/
theorem pe_mtG {m : Str} {o : Expr} {apos cpos : Pos} {to : TE} (ho : PE X o to) (h : EsOK X p es l) (hl : l.length < 20)
    (hbase : attributeBase o m X.env (eval o X.env) = eval o X.env) (hline : (apos.endLine == cpos.line) = true) :
    PE X (.Call (.Attribute o m apos) l [] cpos) (fun σ H Q => to σ H fun x H1 => ∃ T r, TyIs X T x H1 ∧ MtS X T m r ∧ tag p es σ H1 fun xs H2 => r x xs H2 Q) := by
  refine ⟨fun pins s σ H Q I hq => ?_⟩
  cases l with
  | nil =>
    cases h
    refine wpAny_Call_method0_late hbase hline (thn (ho.run pins s σ H _ I hq) fun v s1 ⟨x, H1, I1, r1, T, r, ty, ⟨pa, id, sl, tyo, rule⟩, q1⟩ => ?_)
    obtain ⟨h1, h2⟩ := ty I1 r1
    exact ⟨T, id, pa, sl, tyo, h1, h2, Calls.callWith_builtin rfl (PySem.evalArgs_none (rule pins s1 σ H1 x [] v [] Q I1 r1 .nil (tag_nil q1)))⟩
  | cons ex l =>
    have hst := h.pes.star
    have hfew : ((backTo cpos (starEach (ex :: l) X.env)).all (fun x => !x.1) && (backToKw cpos (keywordEach [] X.env)).all (fun x => x.1.isSome)
        && decide ((ex :: l).length + ([] : List Keyword).length + (if ([] : List Keyword).isEmpty then 0 else 1) < 30)) = true := by
      rw [hst]
      have h1 : (backTo cpos (List.map (fun ex => (false, eval ex X.env)) (ex :: l))).all (fun x => !x.1) = true := by
        unfold backTo
        rw [List.map_map, List.all_map, List.all_eq_true]
        intro x _; rfl
      have h2 : (ex :: l).length + ([] : List Keyword).length + (if ([] : List Keyword).isEmpty then 0 else 1) < 30 := by
        show (ex :: l).length + 0 + 0 < 30
        omega
      rw [h1, decide_eq_true h2]; rfl
    have hs := h.head
    have hplain := h.tail cpos
    refine wpAny_Call_method_late hbase hfew hline rfl (thn (ho.run pins s σ H _ I hq) fun v s1 ⟨x, H1, I1, r1, T, r, ty, ⟨pa, id, sl, tyo, rule⟩, q1⟩ => ?_)
    obtain ⟨h1, h2⟩ := ty I1 r1
    refine ⟨T, id, pa, sl, tyo, h1, h2, ?_⟩
    have hA := h.pes.pa.run cpos pins s1 σ H1 _ I1 q1
    rw [hs] at hA ⊢
    refine Calls.callWith_builtin (by show (false || (backTo cpos (starEach l X.env)).any (·.1)) = false; rw [hplain] <;> rfl) (Calls.evalArgs_plain ?_)
    exact thn hA fun us s2 ⟨vs, H2, I2, r2, q2⟩ => rule pins s2 σ H2 x vs v us Q I2 r1 r2 q2
theorem MtR.imp {id : String} {r r' : V → List V → Hp → VK → Prop} (h : MtR X id r) (i : ∀ x xs H Q, r' x xs H Q → r x xs H Q) : MtR X id r' := fun pins s σ H x xs v us Q I rx rs q => h pins s σ H x xs v us Q I rx rs (i _ _ _ _ q)
theorem MtR.orr {id : String} {r r' : V → List V → Hp → VK → Prop} (h : MtR X id r) (h' : MtR X id r') : MtR X id (fun x xs H Q => r x xs H Q ∨ r' x xs H Q) := fun pins s σ H x xs v us Q I rx rs q => q.elim (h pins s σ H x xs v us Q I rx rs) (h' pins s σ H x xs v us Q I rx rs)
theorem RepL.one {K : PySem.W.Frag} {vs : List V} {d : D} (h : RepL K H F io vs [d]) : ∃ v, vs = [v] ∧ Rep K H F io v d := by
  cases h with
  | cons a b => cases b; exact ⟨_, rfl, a⟩
theorem RepL.two {K : PySem.W.Frag} {vs : List V} {d d' : D} (h : RepL K H F io vs [d, d']) : ∃ v v', vs = [v, v'] ∧ Rep K H F io v d ∧ Rep K H F io v' d' := by
  cases h with
  | cons a b =>
    obtain ⟨w, rfl, h⟩ := RepL.one b
    exact ⟨_, _, rfl, a, h⟩
theorem ixN_ok {n : Nat} {i : Int} {k : Nat} (h : ixN n i = some k) : seqIndex? i n = some k := (ixN_seq h).1
/-! ### methods that change a list or a dict -/
/-- the arguments: as they are kept, or as they are read -/
def ArgR (K : PySem.W.Frag) (H : Hp) (F : Zn) (io : List Addr) (m : Cf) (vs : List V) (ds : List D) : Prop := match m with
  | .extend => ROL K H F io vs ds
  | _ => RepL K H F io vs ds
def rChg (K : PySem.W.Frag) (m : Cf) : V → List V → Hp → VK → Prop := fun v vs H Q => ∃ F io ds a u x r x', v = .ref a ∧ H a = some u ∧ HoR K H F io u x ∧ ArgR K H F io m vs ds ∧ chgD m x ds = some (r, x') ∧
  ∀ u' rv, HoR K H F io u' x' → Rep K H F io rv r → Q rv (upd H a u')
/-- .. of this kind -/
def rChgK (K : PySem.W.Frag) (m : Cf) (kd : Kd) : V → List V → Hp → VK → Prop := fun v vs H Q => ∃ F io ds a u x r x', v = .ref a ∧ H a = some u ∧ HoR K H F io u x ∧ kindD x = some kd ∧ ArgR K H F io m vs ds ∧ chgD m x ds = some (r, x') ∧
  ∀ u' rv, HoR K H F io u' x' → Rep K H F io rv r → Q rv (upd H a u')
theorem m_append : MtR X "list.append" (rChgK X.K .append .lst) := by
  refine MtR.imp (show MtR X "list.append" rAppend from mt_append) ?_
  rintro v vs H Q ⟨F, io, ds, a, u, x, r, x', rfl, h1, h2, hk, h3, hf, k⟩
  unfold chgD at hf
  split at hf <;> (try contradiction) <;> try (simp [kindD] at hk; done)
  split at hf
  · rename_i hl
    cases hf
    obtain ⟨y, rfl, hy⟩ := RepL.one (show RepL X.K H F io vs [_] from h3)
    cases h2 with
    | lst h2 => exact ⟨a, _, y, rfl, rfl, h1, by rw [h2.length, ← sizeMax_eq]; exact hl, k _ _ (.lst (h2.snoc hy)) .non⟩
  · contradiction
theorem m_pop : MtR X "list.pop" (rChgK X.K .pop .lst) := by
  refine MtR.imp (Pv.MtR.orr (show MtR X "list.pop" rPop from mt_pop) (show MtR X "list.pop" rPopAt from mt_popAt)) ?_
  rintro v vs H Q ⟨F, io, ds, a, u, x, r, x', rfl, h1, h2, hk, h3, hf, k⟩
  unfold chgD at hf
  split at hf <;> (try contradiction) <;> try (simp [kindD] at hk; done)
  · simp only [Option.map_eq_some_iff] at hf
    obtain ⟨y, hy, e⟩ := hf
    cases e
    cases h2 with
    | lst h2 =>
      rw [← h2.length] at hy
      obtain ⟨w, g1, g2⟩ := h2.get hy
      cases (show RepL X.K H F io vs [] from h3)
      exact .inl ⟨a, _, w, rfl, rfl, h1, g1, k _ _ (.lst h2.dropLast) g2⟩
  · split at hf
    · rename_i hb
      split at hf
      · rename_i j hj
        simp only [Option.map_eq_some_iff] at hf
        obtain ⟨y, hy, e⟩ := hf
        cases e
        cases h2 with
        | lst h2 =>
          obtain ⟨w, g1, g2⟩ := h2.get hy
          obtain ⟨u, rfl, hu⟩ := RepL.one (show RepL X.K H F io vs [_] from h3)
          cases hu
          exact .inr ⟨a, _, _, j, w, rfl, rfl, h1, hb.1, hb.2, by rw [h2.length]; exact ixN_ok hj, g1, k _ _ (.lst (h2.eraseIdx j)) g2⟩
      · contradiction
    · contradiction
theorem m_insert : MtR X "list.insert" (rChgK X.K .insert .lst) := by
  refine MtR.imp mt_insert ?_
  rintro v vs H Q ⟨F, io, ds, a, u, x, r, x', rfl, h1, h2, hk, h3, hf, k⟩
  unfold chgD at hf
  split at hf <;> (try contradiction) <;> try (simp [kindD] at hk; done)
  split at hf
  · rename_i hl
    cases hf
    obtain ⟨y, y', rfl, hy, hy'⟩ := RepL.two (show RepL X.K H F io vs [_, _] from h3)
    cases hy
    cases h2 with
    | lst h2 =>
      refine ⟨a, _, _, y', rfl, rfl, h1, by rw [h2.length, ← sizeMax_eq]; exact hl.1, hl.2.1, hl.2.2, k _ _ (.lst ?_) .non⟩
      rw [List.append_assoc]
      exact (h2.take _).append (.cons hy' (h2.drop _))
  · contradiction
theorem m_extend : MtR X "list.extend" (rChgK X.K .extend .lst) := by
  refine MtR.imp m_extendQ ?_
  rintro v vs H Q ⟨F, io, ds, a, u, x, r, x', rfl, h1, h2, hk, h3, hf, k⟩
  unfold chgD at hf
  split at hf <;> (try contradiction) <;> try (simp [kindD] at hk; done)
  · split at hf
    · rename_i hl
      cases hf
      obtain ⟨y, rfl, hy⟩ := ROL.one (show ROL X.K H F io vs [_] from h3)
      obtain ⟨b, zs, rfl, hb, rb⟩ := hy.lst
      cases h2 with
      | lst h2 => exact ⟨a, b, _, zs, rfl, rfl, h1, .inl hb, by rw [h2.length, rb.length, ← sizeMax_eq]; exact hl, k _ _ (.lst (h2.append rb)) .non⟩
    · contradiction
  · split at hf
    · rename_i hl
      cases hf
      obtain ⟨y, rfl, hy⟩ := ROL.one (show ROL X.K H F io vs [_] from h3)
      obtain ⟨b, zs, rfl, hb, rb⟩ := hy.tup
      cases h2 with
      | lst h2 => exact ⟨a, b, _, zs, rfl, rfl, h1, .inr hb, by rw [h2.length, rb.length, ← sizeMax_eq]; exact hl, k _ _ (.lst (h2.append rb)) .non⟩
    · contradiction
theorem m_reverse : MtR X "list.reverse" (rChgK X.K .reverse .lst) := by
  refine MtR.imp (show MtR X "list.reverse" rReverse from mt_reverse) ?_
  rintro v vs H Q ⟨F, io, ds, a, u, x, r, x', rfl, h1, h2, hk, h3, hf, k⟩
  unfold chgD at hf
  split at hf <;> (try contradiction) <;> try (simp [kindD] at hk; done)
  cases hf
  cases (show RepL X.K H F io vs [] from h3)
  cases h2 with
  | lst h2 => exact ⟨a, _, rfl, rfl, h1, k _ _ (.lst h2.reverse) .non⟩
theorem m_dpop : MtR X "dict.pop" (rChgK X.K .pop .dic) := by
  intro pins s σ H v vs w us Q I rx rs h
  obtain ⟨F, io, ds, a, u, x, r, x', rfl, h1, h2, hk, h3, hf, k⟩ := h
  cases rx
  unfold chgD at hf
  split at hf <;> (try contradiction) <;> try (simp [kindD] at hk; done)
  split at hf
  · rename_i kk _ hkey
    simp only [Option.map_eq_some_iff] at hf
    obtain ⟨y, hy, e⟩ := hf
    cases e
    obtain ⟨w, rfl, hw⟩ := RepL.one (show RepL X.K H F io vs [_] from h3)
    obtain ⟨u', rfl, ru⟩ := Vals.one rs
    cases h2 with
    | dic h2 =>
      rw [key_is hkey] at hy
      rcases h2.look (k := kk.toKey) with ⟨g1, g2⟩ | ⟨d', v', g1, g2, g3⟩
      · rw [g1] at hy; cases hy
      · rw [g1] at hy; cases hy
        refine d_pop I h1 ((RO.key (.inl hw) hkey) ▸ ru) g2 (.inl rfl) fun w' s' I' rw' => ⟨v', _, I', rw', k _ _ (.dic ?_) g3⟩
        have := h2.drop (k := kk.toKey)
        rw [← key_is hkey] at this
        exact this
  · contradiction
  · split at hf
    · rename_i kk dd _ hkey
      obtain ⟨w, w2, rfl, hw, hw2⟩ := RepL.two (show RepL X.K H F io vs [_, _] from h3)
      cases rs with
      | cons ru rs =>
      cases rs with
      | cons ru2 rs =>
      cases rs
      have rk := (RO.key (.inl hw) hkey) ▸ ru
      cases h2 with
      | @dic kvs0 _ h2 =>
        rw [key_is hkey] at hf
        rcases h2.look (k := kk.toKey) with ⟨g1, g2⟩ | ⟨d', v', g1, g2, g3⟩
        · rw [g1] at hf
          cases hf
          have hH : upd H a (.dK kvs0) = H := by
            funext b
            by_cases hb : b = a
            · rw [hb, upd_same, h1]
            · rw [upd_ne hb]
          refine d_popD I h1 rk g2 fun s' I' => ⟨w2, _, I', ru2, ?_⟩
          rw [← hH]
          exact k _ _ (.dic h2) hw2
        · rw [g1] at hf
          cases hf
          exact d_pop I h1 rk g2 (.inr ⟨_, rfl⟩) fun w' s' I' rw' => ⟨v', _, I', rw', k _ _ (.dic (h2.drop (k := kk.toKey))) g3⟩
    · contradiction
/-- the methods that are served, by the kind -/
theorem chg_of {m : Cf} {kd : Kd} (h : chgK m kd = true) : ∃ T, (∀ {K : PySem.W.Frag} {v : V} {d : D} {H F io}, X.K = K → RO K H F io v d → kindD d = some kd → TyIs X T v H) ∧ MtS X T m.name (rChgK X.K m kd) := by
  cases kd with
  | lst =>
    refine ⟨"list", fun hK h k => tyIs_lst hK h k, PySem.F.plainAttrs_list, ?_⟩
    cases m with
    | append => exact ⟨_, PySem.F.slot_list_append, PySem.F.type_list_append, m_append⟩
    | pop => exact ⟨_, PySem.F.slot_list_pop, PySem.F.type_list_pop, m_pop⟩
    | insert => exact ⟨_, PySem.F.slot_list_insert, PySem.F.type_list_insert, m_insert⟩
    | extend => exact ⟨_, PySem.F.slot_list_extend, PySem.F.type_list_extend, m_extend⟩
    | reverse => exact ⟨_, PySem.F.slot_list_reverse, PySem.F.type_list_reverse, m_reverse⟩
  | dic =>
    refine ⟨"dict", fun hK h k => tyIs_dic h k, PySem.F.plainAttrs_dict, ?_⟩
    cases m with
    | pop => exact ⟨_, PySem.F.slot_dict_pop, PySem.F.type_dict_pop, m_dpop⟩
    | _ => simp [chgK] at h
  | _ => cases m <;> simp [chgK] at h
theorem arg_r {m : Cf} {vs : List V} {ds ds' : List D} (s : SR p.K p.z F io e st σ H) (r : RepL p.K H F io vs ds) (h : argC m st ds = some ds') : ArgR p.K H F io m vs ds' := by
  cases m with
  | extend =>
    have ro : ∀ {vs : List V} {ds : List D}, RepL p.K H F io vs ds → ROL p.K H F io vs ds := fun {vs ds} r => by
      induction ds generalizing vs with
      | nil => cases r; trivial
      | cons d ds ih => cases r with | cons a b => exact ⟨.inl a, ih b⟩
    exact ROL.ders s.cel (ro r) h
  | _ => cases h; exact r
theorem chgX_of {kd : Kd} {m : Cf} {x : D} {ds : List D} {r : D × D} (h : chgX kd m x ds = some r) : kindD x = some kd ∧ chgD m x ds = some r := by
  unfold chgX at h
  split at h
  · exact ⟨by assumption, h⟩
  · cases h
/-- behind the receiver and the arguments -/
theorem chv_go {m : Cf} {kd : Kd} {Q : VK} {P : DB → En → Sto → Prop} {v : V} {i : Nat} (hσ : σ[i]? = some (some v)) (s : SR p.K p.z F io e st σ H)
    (h : Res ((ag p.B p.G es e st).bind fun as e s => match rd e as with
      | some ds => (match argC m s ds with
        | some ds => chgS (fun x => chgX kd m x ds) i (fz e as) s
        | none => .no)
      | none => .no) P (XW p F io H σ)) (hP : ∀ r e' st', P r e' st' → ∀ v H', PoE p.K p.z F io H e' st' σ r v H' → Q v H') : tag p es σ H fun xs H2 => rChgK p.K m kd v xs H2 Q := by
  refine ⟨F, io, e, st, s, h.of_bind.mono (fun as e' st' k vs H' ⟨F', io', y, s', q⟩ => ?_) fun _ _ _ x => x⟩
  split at k
  · rename_i ds hds
    obtain ⟨F2, y2, s2, r⟩ := s'.fz q hds
    split at k
    · rename_i ds' hds'
      obtain ⟨a, u, x, r', x', rfl, g1, g2, g3, g4⟩ := chgS_po s2 hσ k
      obtain ⟨g0, g3⟩ := chgX_of g3
      refine ⟨F2, io', ds', a, u, x, r', x', rfl, g1, g2, g0, arg_r s2 r hds', g3, fun u' rv q1 q3 => ?_⟩
      obtain ⟨e2, st2, k, y3, s3⟩ := g4 u' q1
      exact hP _ _ _ k _ _ ⟨F2, io', (y.trans y2).trans y3, s3, q3.ext y3⟩
    · exact k.elim
  · exact k.elim
theorem cho_go {m : Cf} {kd : Kd} {Q : VK} {P : DB → En → Sto → Prop} {v : V} {d : D} (hv : Rep p.K H F io v d) (s : SR p.K p.z F io e st σ H)
    (h : Res ((ag p.B p.G es e st).bind fun as e s => match rd e as with
      | some ds => (match argC m s ds with
        | some ds => chgO (fun x => chgX kd m x ds) d (fz e as) s
        | none => .no)
      | none => .no) P (XW p F io H σ)) (hP : ∀ r e' st', P r e' st' → ∀ v H', PoE p.K p.z F io H e' st' σ r v H' → Q v H') : tag p es σ H fun xs H2 => rChgK p.K m kd v xs H2 Q := by
  refine ⟨F, io, e, st, s, h.of_bind.mono (fun as e' st' k vs H' ⟨F', io', y, s', q⟩ => ?_) fun _ _ _ x => x⟩
  split at k
  · rename_i ds hds
    obtain ⟨F2, y2, s2, r⟩ := s'.fz q hds
    split at k
    · rename_i ds' hds'
      obtain ⟨a, u, x, r', x', rfl, g1, g2, g3, g4⟩ := chgO_po s2 ((hv.ext y).ext y2) k
      obtain ⟨g0, g3⟩ := chgX_of g3
      refine ⟨F2, io', ds', a, u, x, r', x', rfl, g1, g2, g0, arg_r s2 r hds', g3, fun u' rv q1 q3 => ?_⟩
      obtain ⟨e2, st2, k, y3, s3⟩ := g4 u' q1
      exact hP _ _ _ k _ _ ⟨F2, io', (y.trans y2).trans y3, s3, q3.ext y3⟩
    · exact k.elim
  · exact k.elim
theorem e_chv {m : Cf} {x : Str} {i : Nat} {xp apos cpos : Pos} (S : Sok p X) (h : EsOK X p es l) (hl : l.length < 20) (hN : X.N[i]? = some x) (hv : Vis X.env.scope x) (hd : (x == ("__debug__" : Str)) = false) (hcd : (x == ("__classdict__" : Str)) = false)
    (hline : (apos.endLine == cpos.line) = true) : PE X (.Call (.Attribute (.Name x xp) m.name apos) l [] cpos) (tev p (.chv m i es)) := by
  refine PE.imp (pe_mtG (pe_var hN hv hd hcd) h hl rfl hline) fun σ H Q ⟨F, io, e, st, s, h⟩ => ?_
  rw [ev] at h
  split at h
  · rename_i kd hkd
    split at h
    · rename_i hi
      obtain ⟨v, hσ⟩ := isDef_slot s (knS_def hkd)
      obtain ⟨d, hd, hk⟩ := knS_ro s hkd hσ
      obtain ⟨T, hT, ms⟩ := chg_of (X := X) hi
      exact ⟨v, hσ, T, _, hT S.K hd hk, ms, S.K ▸ chv_go hσ s h fun r e' st' k => k⟩
    · exact h.elim
  · exact h.elim
theorem e_cho {m : Cf} {o : Expr} {apos cpos : Pos} (S : Sok p X) (ho : EOK X p o c) (h : EsOK X p es l) (hl : l.length < 20)
    (hbase : attributeBase o m.name X.env (eval o X.env) = eval o X.env) (hline : (apos.endLine == cpos.line) = true) : PE X (.Call (.Attribute o m.name apos) l [] cpos) (tev p (.cho m c es)) := by
  refine PE.imp (pe_mtG ho.pe h hl hbase hline) fun σ H Q ⟨F, io, e, st, s, h⟩ => ?_
  rw [ev] at h
  refine ⟨F, io, e, st, s, h.of_bind.mono (fun r e' st' k v H' po => ?_) fun _ _ _ x => x⟩
  split at k
  · rename_i kd hkd
    split at k
    · rename_i hi
      obtain ⟨F', io', y, s', q⟩ := po.frz
      obtain ⟨d, hd, hk⟩ := knD_ro s' hkd q
      obtain ⟨T, hT, ms⟩ := chg_of (X := X) hi
      exact ⟨T, _, hT S.K hd hk, ms, S.K ▸ cho_go q s' (Res.mono k (fun _ _ _ k => k) fun _ _ _ x => XW.ext y x) fun r e' st' k v H' po => k v H' (PoE.ext y po)⟩
    · exact k.elim
  · exact k.elim
/-! ### methods that change nothing -/
def ArgM (K : PySem.W.Frag) (H : Hp) (F : Zn) (io : List Addr) (m : Mf) (vs : List V) (ds : List D) : Prop := match m with
  | .get => RepL K H F io vs ds
  | _ => ROL K H F io vs ds
def rMth (K : PySem.W.Frag) (m : Mf) (kd : Kd) : V → List V → Hp → VK → Prop := fun v vs H Q => ∃ F io d ds r, RO K H F io v d ∧ ArgM K H F io m vs ds ∧ kindD d = some kd ∧ mthD m d ds = some r ∧ ∀ v' H', NV K H F io r v' H' → Q v' H'
theorem m_get (hu : X.A.units + 1 < cLine) : MtR X "dict.get" (rMth X.K .get .dic) := by
  intro pins s σ H v vs w us Q I rx rs h
  obtain ⟨F, io, d, ds, r, h1, h3, hk, hf, k⟩ := h
  have h3 : RepL X.K H F io vs ds := h3
  unfold mthD at hf
  split at hf <;> (try contradiction) <;> try (simp [kindD] at hk; done)
  · split at hf
    · rename_i kk _ _ hkey
      simp only [nul] at hf
      cases hf
      obtain ⟨a, kvs, rfl, ha, ra⟩ := h1.dic
      cases rx
      obtain ⟨w, rfl, hw⟩ := RepL.one h3
      obtain ⟨u', rfl, ru⟩ := Vals.one rs
      refine d_get1 hu I (.inl ⟨kvs, _, ha, RO.key (.inl hw) hkey, rfl⟩) ru fun w' s' I' rw' => ⟨_, H, I', rw', k _ _ (.val ?_)⟩
      rcases ra.look (k := kk.toKey) with ⟨g1, g2⟩ | ⟨d', v', g1, g2, g3⟩ <;> rw [← key_is hkey] at g1
      · rw [g1, g2]; exact .non
      · rw [g1, g2]; exact g3
    · contradiction
  · split at hf
    · rename_i kk dd _ _ hkey
      simp only [nul] at hf
      cases hf
      obtain ⟨a, kvs, rfl, ha, ra⟩ := h1.dic
      cases rx
      obtain ⟨w, w2, rfl, hw, hw2⟩ := RepL.two h3
      obtain ⟨u1, u2, rfl, ru, ru2⟩ := vals2 rs
      refine d_get2 hu I (.inl ⟨kvs, _, ha, RO.key (.inl hw) hkey, rfl⟩) ru ru2 fun w' s' I' rw' => ⟨_, H, I', rw', k _ _ (.val ?_)⟩
      rcases ra.look (k := kk.toKey) with ⟨g1, g2⟩ | ⟨d', v', g1, g2, g3⟩ <;> rw [← key_is hkey] at g1
      · rw [g1, g2]; exact hw2
      · rw [g1, g2]; exact g3
    · contradiction
theorem index_at {x : D} {j : Nat} (hx : x.fine j = true) : ∀ {xs : List D} {n k : Nat}, fineL k xs = true → indexD x xs = some n → ∃ y, (pyL xs)[n]? = some y ∧ PyData.eqv y x.py = true ∧ ∀ (m : Nat) (z : PyData), m < n → (pyL xs)[m]? = some z → PyData.eqv z x.py = false
  | [], n, k, _, h => by cases h
  | y :: xs, n, k, f, h => by
    simp only [fineL, Bool.and_eq_true] at f
    unfold indexD at h
    split at h
    · rename_i hy
      cases h
      exact ⟨y.py, rfl, by rw [eqv_py f.1 hx]; exact hy, fun m z hm => absurd hm (Nat.not_lt_zero _)⟩
    · rename_i hy
      simp only [Option.map_eq_some_iff] at h
      obtain ⟨n', h, rfl⟩ := h
      obtain ⟨z, g1, g2, g3⟩ := index_at hx f.2 h
      refine ⟨z, by simpa [pyL] using g1, g2, fun m z' hm hz => ?_⟩
      cases m with
      | zero =>
        simp [pyL] at hz
        subst hz
        rw [eqv_py f.1 hx]
        simpa using hy
      | succ m => exact g3 m z' (by omega) (by simpa [pyL] using hz)
theorem m_index (hu : X.A.units + 65 < cLine) : MtR X "list.index" (rMth X.K .index .lst) := by
  refine MtR.imp (mt_indexD hu) ?_
  rintro v vs H Q ⟨F, io, d, ds, r, h1, h3, hk, hf, k⟩
  have h3 : ROL X.K H F io vs ds := h3
  unfold mthD at hf
  split at hf <;> (try contradiction) <;> try (simp [kindD] at hk; done)
  split at hf
  · rename_i xs x _ _ hc
    simp only [Bool.and_eq_true] at hc
    simp only [Option.map_eq_some_iff] at hf
    obtain ⟨n, hn, rfl⟩ := hf
    obtain ⟨w, rfl, hw⟩ := h3.one
    obtain ⟨y, g1, g2, g3⟩ := index_at hc.1 hc.2 hn
    have fl : (D.lst xs).fine 64 = true := by simpa [D.fine] using hc.2
    have hd := h1.dp fl
    obtain ⟨a, ys, rfl, ha, ra⟩ := h1.lst
    exact ⟨a, w, x.py, pyL xs, n, y, rfl, rfl, hd, hw.dp hc.1, fine_shaped fl, fine_shaped hc.1, g1, g2, g3, k _ _ (.int _)⟩
  · contradiction
theorem eqb_at {A : Around} {s : Shared} (a b : Bool) : SeqAt.EqAt A s (.bool a) (.bool b) (a == b) := by
  by_cases h : a = b
  · subst h; rw [beq_self_eq_true]; exact SeqAt.EqAt.same _
  · intro prog w E Q hq
    unfold eqBool
    refine wpAny_holding ?_
    refine wpAny_ite_split (fun hab => absurd (by have := eq_of_beq hab; injection this) h) (fun _ => ?_)
    exact wpAny_bind (SeqAt.RcAt.bool_bool a b prog w E _ (wpAny_truthy_bool hq))
def eqkB (k : Bool) (v : Value) : Bool := match v with
  | .bool n => n == k
  | _ => false
theorem bls_vals : ∀ {ns : List Bool} {us : List Value}, Vals (ns.map V.bl) us → us = ns.map Value.bool
  | [], _, h => by cases h; rfl
  | n :: ns, _, h => by
    cases h with
    | cons a b => rw [bls_vals b]; cases a; rfl
theorem eqkB_count (k : Bool) : ∀ ns : List Bool, (ns.map Value.bool).countP (eqkB k) = ns.count k
  | [] => rfl
  | n :: ns => by
    rw [List.map_cons, List.countP_cons, List.count_cons, eqkB_count k ns]; rfl
def rCntB (K : PySem.W.Frag) : V → List V → Hp → VK → Prop := fun x xs H Q => ∃ (p : Addr) (ns : List Bool) (k : Bool), x = .ref p ∧ xs = [.bl k] ∧ SqL K H p (ns.map V.bl) ∧ Q (.int (ns.count k : Nat)) H
theorem mt_lcountB : MtR X "list.count" (rCntB X.K) := by
  intro pins s σ H x xs v us Q I rx rxs h
  obtain ⟨p, ns, k, rfl, rfl, hs, q⟩ := h
  cases rx
  obtain ⟨u, rfl, ru⟩ := rxs.one
  cases ru
  obtain ⟨its, rv, ⟨⟨cls, dd, data, sl⟩, n, ho, hc, hdn, hd⟩, hlen⟩ := I.list hs
  simp only at hc hd
  subst hc hd
  have hi := bls_vals rv
  subst hi
  refine call_meets PySem.F.slot_list_count ⟨_, ho, rfl⟩ PySem.F.entry_list_count (PySem.F.args_list_count_2 _ _)
    (SeqAt.list_countAt p (ns.map Value.bool).toArray n dd sl (.bool k) (eqkB k)) ⟨ho, fun y hy => ?_, ?_⟩
  · obtain ⟨b, _, rfl⟩ := List.mem_map.mp (show y ∈ ns.map Value.bool by simpa using hy)
    exact eqb_at b k
  have ec : (ns.map Value.bool).toArray.toList.countP (eqkB k) = ns.count k := eqkB_count k ns
  refine ⟨.int (ns.count k : Nat), H, I.tok _, ⟨s.toks, ?_⟩, q⟩
  show Value.int (((ns.map Value.bool).toArray.toList.countP (eqkB k) : Nat) : Int) s.toks = Value.int ((ns.count k : Nat) : Int) s.toks
  rw [ec]
theorem m_count : MtR X "list.count" (rMth X.K .count .lst) := by
  refine MtR.imp (MtR.orr mt_lcount mt_lcountB) ?_
  rintro v vs H Q ⟨F, io, d, ds, r, h1, h3, hk, hf, k⟩
  have h3 : ROL X.K H F io vs ds := h3
  unfold mthD at hf
  split at hf <;> (try contradiction) <;> try (simp [kindD] at hk; done)
  · simp only [Option.map_eq_some_iff] at hf
    obtain ⟨is, e, rfl⟩ := hf
    obtain ⟨w, rfl, hw⟩ := h3.one
    obtain ⟨a, ys, rfl, ha, ra⟩ := h1.lst
    rw [ints_rep e ra] at ha
    exact .inl ⟨a, is, _, rfl, by rw [hw.int], ha, k _ _ (.int _)⟩
  · simp only [Option.map_eq_some_iff] at hf
    obtain ⟨is, e, rfl⟩ := hf
    obtain ⟨w, rfl, hw⟩ := h3.one
    obtain ⟨a, ys, rfl, ha, ra⟩ := h1.lst
    rw [bls_rep e ra] at ha
    exact .inr ⟨a, is, _, rfl, by rw [hw.bl], ha, k _ _ (.int _)⟩
theorem strs_rep {K : PySem.W.Frag} : ∀ {ds : List D} {is : List Str} {vs : List V}, strsD ds = some is → RepL K H F io vs ds → vs = is.map V.str
  | [], _, _, h, r => by cases h; cases r; rfl
  | d :: ds, _, _, h, r => by
    cases r with
    | cons a b =>
      cases d <;> simp only [strsD] at h <;> try contradiction
      simp only [Option.map_eq_some_iff] at h
      obtain ⟨is, h, rfl⟩ := h
      cases a
      rw [strs_rep h b]; rfl
theorem m_join : MtR X "str.join" (rMth X.K .join .str) := by
  refine MtR.imp mt_join ?_
  rintro v vs H Q ⟨F, io, d, ds, r, h1, h3, hk, hf, k⟩
  have h3 : ROL X.K H F io vs ds := h3
  unfold mthD at hf
  split at hf <;> (try contradiction) <;> try (simp [kindD] at hk; done)
  all_goals
    split at hf <;> try contradiction
    rename_i is e
    split at hf <;> try contradiction
    rename_i hl
    cases hf
    obtain ⟨w, rfl, hw⟩ := h3.one
  · obtain ⟨a, ys, rfl, ha, ra⟩ := hw.lst
    rw [strs_rep e ra] at ha
    exact ⟨_, a, is, h1.str, rfl, .inl ha, hl, k _ _ (.str _)⟩
  · obtain ⟨a, ys, rfl, ha, ra⟩ := hw.tup
    rw [strs_rep e ra] at ha
    exact ⟨_, a, is, h1.str, rfl, .inr ha, hl, k _ _ (.str _)⟩
theorem m_upper : MtR X "str.upper" (rMth X.K .upper .str) := by
  refine MtR.imp mt_upper ?_
  rintro v vs H Q ⟨F, io, d, ds, r, h1, h3, hk, hf, k⟩
  have h3 : ROL X.K H F io vs ds := h3
  unfold mthD at hf
  split at hf <;> (try contradiction) <;> try (simp [kindD] at hk; done)
  split at hf <;> try contradiction
  cases hf
  cases vs with
  | nil => exact ⟨_, h1.str, rfl, by assumption, k _ _ (.str _)⟩
  | cons _ _ => exact h3.elim
theorem m_isdigit : MtR X "str.isdigit" (rMth X.K .isdigit .str) := by
  refine MtR.imp mt_isdigit ?_
  rintro v vs H Q ⟨F, io, d, ds, r, h1, h3, hk, hf, k⟩
  have h3 : ROL X.K H F io vs ds := h3
  unfold mthD at hf
  split at hf <;> (try contradiction) <;> try (simp [kindD] at hk; done)
  cases hf
  cases vs with
  | nil => exact ⟨_, h1.str, rfl, trivial, k _ _ (.bl _)⟩
  | cons _ _ => exact h3.elim
theorem m_startswith : MtR X "str.startswith" (rMth X.K .startswith .str) := by
  refine MtR.imp mt_startswith ?_
  rintro v vs H Q ⟨F, io, d, ds, r, h1, h3, hk, hf, k⟩
  have h3 : ROL X.K H F io vs ds := h3
  unfold mthD at hf
  split at hf <;> (try contradiction) <;> try (simp [kindD] at hk; done)
  cases hf
  obtain ⟨w, rfl, hw⟩ := h3.one
  exact ⟨_, _, h1.str, by rw [hw.str], k _ _ (.bl _)⟩
theorem m_endswith : MtR X "str.endswith" (rMth X.K .endswith .str) := by
  refine MtR.imp mt_endswith ?_
  rintro v vs H Q ⟨F, io, d, ds, r, h1, h3, hk, hf, k⟩
  have h3 : ROL X.K H F io vs ds := h3
  unfold mthD at hf
  split at hf <;> (try contradiction) <;> try (simp [kindD] at hk; done)
  cases hf
  obtain ⟨w, rfl, hw⟩ := h3.one
  exact ⟨_, _, h1.str, by rw [hw.str], k _ _ (.bl _)⟩
theorem m_find : MtR X "str.find" (rMth X.K .find .str) := by
  refine MtR.imp mt_find ?_
  rintro v vs H Q ⟨F, io, d, ds, r, h1, h3, hk, hf, k⟩
  have h3 : ROL X.K H F io vs ds := h3
  unfold mthD at hf
  split at hf <;> (try contradiction) <;> try (simp [kindD] at hk; done)
  cases hf
  obtain ⟨w, rfl, hw⟩ := h3.one
  exact ⟨_, _, h1.str, by rw [hw.str], k _ _ (.int _)⟩
theorem m_removeprefix : MtR X "str.removeprefix" (rMth X.K .removeprefix .str) := by
  refine MtR.imp mt_removeprefix ?_
  rintro v vs H Q ⟨F, io, d, ds, r, h1, h3, hk, hf, k⟩
  have h3 : ROL X.K H F io vs ds := h3
  unfold mthD at hf
  split at hf <;> (try contradiction) <;> try (simp [kindD] at hk; done)
  split at hf <;> try contradiction
  rename_i hl
  cases hf
  obtain ⟨w, rfl, hw⟩ := h3.one
  exact ⟨_, _, h1.str, by rw [hw.str], by rw [← sizeMax_eq]; exact hl, k _ _ (.str _)⟩
theorem m_removesuffix : MtR X "str.removesuffix" (rMth X.K .removesuffix .str) := by
  refine MtR.imp mt_removesuffix ?_
  rintro v vs H Q ⟨F, io, d, ds, r, h1, h3, hk, hf, k⟩
  have h3 : ROL X.K H F io vs ds := h3
  unfold mthD at hf
  split at hf <;> (try contradiction) <;> try (simp [kindD] at hk; done)
  split at hf <;> try contradiction
  rename_i hl
  cases hf
  obtain ⟨w, rfl, hw⟩ := h3.one
  exact ⟨_, _, h1.str, by rw [hw.str], by rw [← sizeMax_eq]; exact hl, k _ _ (.str _)⟩
theorem m_partition : MtR X "str.partition" (rMth X.K .partition .str) := by
  refine MtR.imp mt_partition ?_
  rintro v vs H Q ⟨F, io, d, ds, r, h1, h3, hk, hf, k⟩
  have h3 : ROL X.K H F io vs ds := h3
  unfold mthD at hf
  split at hf <;> (try contradiction) <;> try (simp [kindD] at hk; done)
  split at hf <;> try contradiction
  rename_i hl
  cases hf
  obtain ⟨w, rfl, hw⟩ := h3.one
  exact ⟨_, _, h1.str, by rw [hw.str], hl.1, by rw [← sizeMax_eq]; exact hl.2, fun q hq => k _ _ (.tup hq (.cons (.str _) (.cons (.str _) (.cons (.str _) .nil))))⟩
theorem rep_strs {K : PySem.W.Frag} {H : Hp} {F : Zn} {io : List Addr} : ∀ ys : List Str, RepL K H F io (ys.map V.str) (ys.map D.str)
  | [] => .nil
  | y :: r => .cons (.str y) (rep_strs r)
theorem m_split : MtR X "str.split" (rMth X.K .split .str) := by
  refine MtR.imp mt_split ?_
  rintro v vs H Q ⟨F, io, d, ds, r, h1, h3, hk, hf, k⟩
  have h3 : ROL X.K H F io vs ds := h3
  unfold mthD at hf
  split at hf <;> (try contradiction) <;> try (simp [kindD] at hk; done)
  split at hf <;> try contradiction
  rename_i hl
  cases hf
  obtain ⟨w, rfl, hw⟩ := h3.one
  exact ⟨_, _, h1.str, by rw [hw.str], hl.1, by rw [← sizeMax_eq]; exact hl.2, fun q hq => k _ _ (.lst hq (rep_strs _))⟩
theorem mth_of (hu : X.A.units + 65 < cLine) {m : Mf} {kd : Kd} (h : mthK m kd = true) : ∃ T, (∀ {K : PySem.W.Frag} {v : V} {d : D} {H F io}, X.K = K → RO K H F io v d → kindD d = some kd → TyIs X T v H) ∧ MtS X T m.name (rMth X.K m kd) := by
  cases m <;> cases kd <;> simp [mthK] at h
  · exact ⟨"dict", fun hK h k => tyIs_dic h k, PySem.F.plainAttrs_dict, _, PySem.F.slot_dict_get, PySem.F.type_dict_get, m_get (by omega)⟩
  · exact ⟨"list", fun hK h k => tyIs_lst hK h k, PySem.F.plainAttrs_list, _, PySem.F.slot_list_index, PySem.F.type_list_index, m_index hu⟩
  · exact ⟨"list", fun hK h k => tyIs_lst hK h k, PySem.F.plainAttrs_list, _, PySem.F.slot_list_count, PySem.F.type_list_count, m_count⟩
  · exact ⟨"str", fun hK h k => tyIs_str hK h k, PySem.F.plainAttrs_str, _, PySem.F.slot_str_join, PySem.F.type_str_join, m_join⟩
  · exact ⟨"str", fun hK h k => tyIs_str hK h k, PySem.F.plainAttrs_str, _, PySem.F.slot_str_upper, PySem.F.type_str_upper, m_upper⟩
  · exact ⟨"str", fun hK h k => tyIs_str hK h k, PySem.F.plainAttrs_str, _, PySem.F.slot_str_partition, PySem.F.type_str_partition, m_partition⟩
  · exact ⟨"str", fun hK h k => tyIs_str hK h k, PySem.F.plainAttrs_str, _, PySem.F.slot_str_split, PySem.F.type_str_split, m_split⟩
  · exact ⟨"str", fun hK h k => tyIs_str hK h k, PySem.F.plainAttrs_str, _, PySem.F.slot_str_startswith, PySem.F.type_str_startswith, m_startswith⟩
  · exact ⟨"str", fun hK h k => tyIs_str hK h k, PySem.F.plainAttrs_str, _, PySem.F.slot_str_endswith, PySem.F.type_str_endswith, m_endswith⟩
  · exact ⟨"str", fun hK h k => tyIs_str hK h k, PySem.F.plainAttrs_str, _, PySem.F.slot_str_removeprefix, PySem.F.type_str_removeprefix, m_removeprefix⟩
  · exact ⟨"str", fun hK h k => tyIs_str hK h k, PySem.F.plainAttrs_str, _, PySem.F.slot_str_removesuffix, PySem.F.type_str_removesuffix, m_removesuffix⟩
  · exact ⟨"str", fun hK h k => tyIs_str hK h k, PySem.F.plainAttrs_str, _, PySem.F.slot_str_isdigit, PySem.F.type_str_isdigit, m_isdigit⟩
  · exact ⟨"str", fun hK h k => tyIs_str hK h k, PySem.F.plainAttrs_str, _, PySem.F.slot_str_find, PySem.F.type_str_find, m_find⟩
theorem rd_fz (e : En) (as : List Ar) : ∀ (bs : List Ar), rd (fz e bs) as = rd e as
  | [] => rfl
  | .v _ :: r => rd_fz e as r
  | .s i :: r => by
    show rd (fz (fz1 e i) r) as = _
    rw [rd_fz _ as r, rd_fz1]
theorem rd_one {e : En} {a : Ar} {d : D} (h : rd1 e a = some d) : rd e [a] = some [d] := by simp [rd, h]
theorem argM_r {m : Mf} {vs : List V} {ds ds' : List D} (s : SR p.K p.z F io e st σ H) (r : RepL p.K H F io vs ds) (h : argM m st ds = some ds') : ArgM p.K H F io m vs ds' := by
  have ro : ∀ {vs : List V} {ds : List D}, RepL p.K H F io vs ds → ROL p.K H F io vs ds := fun {vs ds} r => by
    induction ds generalizing vs with
    | nil => cases r; trivial
    | cons d ds ih => cases r with | cons a b => exact ⟨.inl a, ih b⟩
  cases m with
  | get => cases h; exact r
  | _ => exact ROL.ders s.cel (ro r) h
theorem ArL.one {K : PySem.W.Frag} {vs : List V} {a : Ar} (h : ArL K H F io σ vs [a]) : ∃ v, vs = [v] ∧ ArR K H F io σ v a := by
  match vs, h with
  | [v], ⟨h, _⟩ => exact ⟨v, rfl, h⟩
theorem knA_ro {a : Ar} {v : V} {kd : Kd} (s : SR p.K p.z F io e st σ H) (h : ArR p.K H F io σ v a) (k : knA e st a = some kd) : ∃ d, RO p.K H F io v d ∧ kindD d = some kd := by
  unfold knA knD at k
  simp only [Option.bind_eq_some_iff] at k
  obtain ⟨d, h1, d', h2, h3⟩ := k
  have r := s.ro (as := [a]) (vs := [v]) ⟨h, trivial⟩ (rd_one h1)
  exact ⟨d', RO.der s.cel r.1 h2, h3⟩
theorem mtK_of {m : Mf} {o : Option Kd} (h : mtK m o = true) : ∃ kd, o = some kd ∧ mthK m kd = true := by
  cases o with
  | none => cases h
  | some kd => exact ⟨kd, rfl, h⟩
/-- what the receiver is when the arguments are known -/
theorem mthD_kind {m : Mf} {d : D} {ds : List D} {r : DB} (h : mthD m d ds = some r) : ∃ kd, kindD d = some kd ∧ mthK m kd = true := by
  unfold mthD at h
  split at h <;> first | contradiction | exact ⟨_, rfl, rfl⟩
theorem mthK_one {m : Mf} {k k' : Kd} (h : mthK m k = true) (h' : mthK m k' = true) : k = k' := by
  cases m <;> cases k <;> cases h <;> cases k' <;> first | rfl | cases h'
theorem e_mth {m : Mf} {o : Expr} {os : Es} {apos cpos : Pos} (S : Sok p X) (ho : EsOK X p os [o]) (h : EsOK X p es l) (hl : l.length < 20)
    (hbase : attributeBase o m.name X.env (eval o X.env) = eval o X.env) (hline : (apos.endLine == cpos.line) = true) : PE X (.Call (.Attribute o m.name apos) l [] cpos) (tev p (.mth m os es)) := by
  obtain ⟨co, rfl, hco⟩ := ho.one
  refine PE.imp (pe_mtG hco.par h hl hbase hline) fun σ H Q ⟨F, io, e, st, s, h⟩ => ?_
  rw [ev] at h
  have T : tag p (.cons co .nil) σ H fun vs H1 => ∃ x, vs = [x] ∧ ∃ T r, TyIs X T x H1 ∧ MtS X T m.name r ∧ tag p es σ H1 fun xs H2 => r x xs H2 Q := by
    refine ⟨F, io, e, st, s, h.of_bind.mono (fun as e' st' k vs H' ⟨F', io', y, s', q⟩ => ?_) fun _ _ _ x => x⟩
    match as, k, q with
    | [], k, q => exact k.elim
    | _ :: _ :: _, k, q => exact k.elim
    | [a], k, q =>
      obtain ⟨x, rfl, hx⟩ := q.one
      refine ⟨x, rfl, ?_⟩
      simp only [] at k
      split at k
      · rename_i hm
        obtain ⟨kd, hkd, hmk⟩ := mtK_of hm
        obtain ⟨d, hd, hk⟩ := knA_ro s' hx hkd
        obtain ⟨T, hT, ms⟩ := mth_of S.hu hmk
        refine ⟨T, _, hT S.K hd hk, ms, F', io', e', st', s', k.of_bind.mono (fun as e2 st2 k vs H2 ⟨F2, io2, y2, s2, q2⟩ => ?_) fun _ _ _ x => XW.ext y x⟩
        split at k
        · rename_i ds d' hds hd'
          simp only [Option.bind_eq_some_iff] at hd'
          obtain ⟨d0, hr, hdr⟩ := hd'
          obtain ⟨F3, y3, s3, r⟩ := s2.fz q2 hds
          have hro := s3.ro (as := [a]) (vs := [x]) ⟨(hx.ext y2).ext y3, trivial⟩ (by rw [rd_fz]; exact rd_one hr)
          have hro := RO.der s3.cel hro.1 hdr
          split at k
          · rename_i ds' hds'
            obtain ⟨r', hr', k⟩ := k.of_of
            obtain ⟨kd', g1, g2⟩ := mthD_kind hr'
            have := mthK_one hmk g2
            subst this
            rw [S.K]
            exact ⟨F3, io2, d', ds', r', hro, argM_r s3 r hds', g1, hr', fun v' H' nv => k v' H' (PoE.ext (y.trans (y2.trans y3)) (NV.po s3 nv))⟩
          · exact k.elim
        · exact k.elim
      · exact k.elim
  refine (tag1 T).mono fun x H1 ⟨x', e1, q⟩ => ?_
  cases e1
  exact q
/-! D.get(e), D a dict of the module -/
def rGetM (K : PySem.W.Frag) (w : World) : V → List V → Hp → VK → Prop := fun v vs H Q => ∃ a es n kvs F io ds r, v = .ref a ∧ MDict K w a es n ∧ EsR K es.toList kvs ∧ RepL K H F io vs ds ∧ mthD .get (.dic kvs) ds = some r ∧ ∀ v' H', NV K H F io r v' H' → Q v' H'
theorem m_getM : MtR X "dict.get" (rGetM X.K X.w) := by
  intro pins s σ H v vs w us Q I rx rs h
  obtain ⟨a, es, n, kvs, F, io, ds, r, rfl, D, er, h3, hf, k⟩ := h
  cases rx
  have hm := D.mapOf (P := X.prog) I.kIn
  unfold mthD at hf
  split at hf <;> (try contradiction) <;> (rename_i q; cases q)
  · split at hf
    · rename_i kk _ hkey
      simp only [nul] at hf
      cases hf
      obtain ⟨w, rfl, hw⟩ := RepL.one h3
      obtain ⟨u', rfl, ru⟩ := Vals.one rs
      have ru := RO.key (.inl hw) hkey ▸ ru
      refine call_meetsIn PySem.F.slot_dict_get hm.typeIs PySem.F.entry_dict_get (PySem.F.args_dict_get_2 _ _) (meets_dict_get (mixKind X.prog X.w) a (kV_is ru) D.low) ⟨_, hm, ?_⟩
      rcases GD.ns er kk.toKey with ⟨g1, g2⟩ | ⟨d', u, v', g1, g2, g3, g4⟩ <;> rw [← key_is hkey] at g1
      · rw [g1] at k; rw [g2]
        exact ⟨.non, H, I.tok _, rfl, k _ _ (.val .non)⟩
      · rw [g1] at k; rw [g2]
        exact ⟨v', H, I.tok _, g3, k _ _ (.val (g4 ..))⟩
    · contradiction
  · split at hf
    · rename_i kk dd _ hkey
      simp only [nul] at hf
      cases hf
      obtain ⟨w, w2, rfl, hw, hw2⟩ := RepL.two h3
      obtain ⟨u1, u2, rfl, ru, ru2⟩ := vals2 rs
      have ru := RO.key (.inl hw) hkey ▸ ru
      refine call_meetsIn PySem.F.slot_dict_get hm.typeIs PySem.F.entry_dict_get (PySem.F.args_dict_get_3 _ _ _) (meets_dict_get_default (mixKind X.prog X.w) a (kV_is ru) D.low u2) ⟨_, hm, ?_⟩
      rcases GD.ns er kk.toKey with ⟨g1, g2⟩ | ⟨d', u, v', g1, g2, g3, g4⟩ <;> rw [← key_is hkey] at g1
      · rw [g1] at k; rw [g2]
        exact ⟨w2, H, I.tok _, ru2, k _ _ (.val hw2)⟩
      · rw [g1] at k; rw [g2]
        exact ⟨v', H, I.tok _, g3, k _ _ (.val (g4 ..))⟩
    · contradiction
theorem e_gdg {x : Str} {xp apos cpos : Pos} (S : Sok p X) (hg : Gl X x) (hd : (x == ("__debug__" : Str)) = false) (h : EsOK X p es l) (hl : l.length < 20)
    (hbase : attributeBase (.Name x xp) "get" X.env (eval (.Name x xp) X.env) = eval (.Name x xp) X.env) (hline : (apos.endLine == cpos.line) = true) : PE X (.Call (.Attribute (.Name x xp) "get" apos) l [] cpos) (tev p (.gdg x es)) := by
  by_cases hx : gDic (p.G x) = true
  · obtain ⟨kvs, e0, pa, des, n, h1, D, r⟩ := glb_dic S hx
    refine PE.imp (pe_mtG (pe_glob (v := .ref pa) hg h1 rfl hd) h hl hbase hline) fun σ H Q ⟨F, io, e, st, s, k⟩ => ?_
    rw [ev, if_pos hx, e0] at k
    refine ⟨"dict", rGetM X.K X.w, fun I r0 => ?_, ⟨PySem.F.plainAttrs_dict, _, PySem.F.slot_dict_get, PySem.F.type_dict_get, m_getM⟩, F, io, e, st, s, k.of_bind.mono (fun as e2 st2 k vs H2 ⟨F2, io2, y2, s2, q2⟩ => ?_) fun _ _ _ x => x⟩
    · cases r0
      refine ⟨(D.mapOf (P := X.prog) I.kIn).typeIs, fun b q => ?_⟩
      cases q
      exact ⟨_, I.kIn _ _ D.at_, rfl⟩
    · split at k
      · rename_i ds hds
        obtain ⟨F3, y3, s3, rr⟩ := s2.fz q2 hds
        obtain ⟨r', hr', k⟩ := k.of_of
        rw [S.K]
        exact ⟨pa, des, n, kvs, F3, io2, ds, r', rfl, S.K ▸ D, S.K ▸ r, rr, hr', fun v' H' nv => k v' H' (PoE.ext (y2.trans y3) (NV.po s3 nv))⟩
      · exact k.elim
  · refine ⟨fun pins s σ H Q I ⟨F, io, e, st, _, h⟩ => ?_⟩
    rw [ev, if_neg hx] at h
    exact h.elim
end
end Pv
namespace Pv
open PySem PySem.Spec PyProof.Rows L2
/-! ## enumerate(t, start=k) over a tuple -/
def IteT (K : PySem.W.Frag) (a : Addr) (k0 : Int) : It :=
  ⟨fun i H => ∃ (xs : List V) (x : V), SqT K H a xs ∧ xs[i]? = some x, fun i H v H' => ∃ T x, v = .ref T ∧ H T = none ∧ H' = upd H T (.tup [.int (k0 + (i : Nat)), x]) ∧ ∀ xs, SqT K H a xs → xs[i]? = some x, fun i H => ∃ xs : List V, SqT K H a xs ∧ xs.length = i⟩
theorem turn_enumT {P : Program} {w : World} {K : PySem.W.Frag} {elts : List Expr} {kk : Nat} {tpos : Pos} (a e it : Addr) (k0 : Int) :
    Turn P w K (.Tuple elts kk tpos) (IteT K a k0) [e, it] e (fun i h => (∃ old, IsEnum h e it (k0 + (i : Nat)) old) ∧ h.IsTupleIter it a i ∧ e ≠ it ∧ a ≠ it ∧ e ≠ a) where
  mem := by simp
  obj := fun i h st b hb => by
    obtain ⟨⟨old, he⟩, ⟨o, ho, hc, hd⟩, _⟩ := st
    have e' : b = e ∨ b = it := by simpa using hb
    rcases e' with z | z
    · rw [z]; exact ⟨_, he, fun v q => nomatch q⟩
    · rw [z]; exact ⟨o, ho, fun v q => by rw [hd] at q; cases q⟩
  keep := fun i h h' st k => let ⟨⟨old, he⟩, hi, hne⟩ := st; ⟨⟨old, k e (by simp) _ he⟩, hi.at fun o q => k it (by simp) o q, hne⟩
  item := by
    intro X hP hw hK hc i pins s σ H E I hf st hg
    subst hP hw hK
    obtain ⟨⟨old, he⟩, hit, hne, hai, hea⟩ := st
    obtain ⟨xs, x, hq, hx⟩ := hg
    obtain ⟨its, rv, p, hz⟩ := I.tuple hq
    obtain ⟨u, hu, ru⟩ := rv.get hx
    have hel : e < s.heap.objs.size := Heap.lt_size he
    have hil : it < s.heap.objs.size := by obtain ⟨_, q, _⟩ := hit; exact Heap.lt_size q
    have hlt : i < its.toArray.size := by
      have := (List.getElem?_eq_some_iff.mp hu).1
      simpa using this
    refine wpAny_pyNext_enum_itemC (Draws.tuple (A := X.A.in1) (I.ok.hd hc) it a hai its.toArray) he ⟨hit, p⟩ hlt hne (by simp [hne, hea]) fun x' h' tk hx' ho hst' hT hsz hk => ?_
    have hx' : u = x' := by
      have : its.toArray[i]? = some u := by simpa using hu
      rw [this] at hx'
      exact Option.some.inj hx'
    subst hx'
    refine ⟨_, rfl, wpAny_letOwnedTupleGo_enum (s := { s with heap := h', toks := tk + 1 }) ho fun h'' he' sb => ?_⟩
    have hT2 : h''.get? s.heap.objs.size = some { cls := .type "tuple", data := .seq #[.int (k0 + (i : Nat)) tk, u] } := (sb.2 _ (Nat.ne_of_gt hel)).trans hT
    have new : ObjOk X.prog X.w (upd H s.heap.objs.size (.tup [.int (k0 + (i : Nat)), x])) h'' s.heap.objs.size (.tup [.int (k0 + (i : Nat)), x]) :=
      ⟨by show 2 ≤ sizeLine; decide, [.int (k0 + (i : Nat)) tk, u], .cons ⟨_, rfl⟩ (.cons ru .nil), ⟨_, hT2, rfl, _, rfl⟩⟩
    have I1 : Inv X pins σ (upd H s.heap.objs.size (.tup [.int (k0 + (i : Nat)), x])) { s with heap := h'', toks := tk + 1 } :=
      I.turnedNew (ch := [e, it]) (fun b ob hb q => (sb.2 b (fun z => hb (by simp [z]))).trans (hk b ob (fun z => hb (by simp [z])) (fun z => hb (by simp [z])) q)) hf (Nat.le_refl _) new
    refine ⟨.ref s.heap.objs.size, _, I1, rfl, ⟨_, x, rfl, I.hok.fresh (Nat.le_refl _), rfl, fun ys hy => by rw [I.tuple_inj hy hq]; exact hx⟩, ⟨⟨u, ?_⟩, hst'.1.at fun o q => (sb.2 it (Ne.symm hne)).trans q, hne, hai, hea⟩, fun b hb => ?_⟩
    · have e1 : k0 + ((i + 1 : Nat) : Int) = k0 + (i : Int) + 1 := by omega
      rw [e1]; exact he'
    · have hb' : b < s.heap.objs.size := by
        have e' : b = e ∨ b = it := by simpa using hb
        rcases e' with z | z
        · rw [z]; exact hel
        · rw [z]; exact hil
      rw [upd_ne (Nat.ne_of_lt hb')]
      exact (hf b hb).1
  done := by
    intro X hP hw hK hc i pins s σ H E I hf st hg
    subst hP hw hK
    obtain ⟨⟨old, he⟩, hit, hne, hai, hea⟩ := st
    obtain ⟨xs, hq, hx⟩ := hg
    obtain ⟨its, rv, p, hz⟩ := I.tuple hq
    have hl : its.toArray.size = i := by simp [← rv.length, hx]
    obtain ⟨f0, f1, f2, f3, f4, f5⟩ := hf it (by simp)
    exact wpAny_pyNext_enum_endD (Draws.tuple (A := X.A.in1) (I.ok.hd hc) it a hai its.toArray) he ⟨hl ▸ hit, p⟩ fun h' eb => ⟨rfl, I.turned (t' := s.toks) (fun b o hb q => eb b o hb q) f0 f1 f3 f4 f5⟩
  self := fun A i s Q E st h => let ⟨⟨_, he⟩, _⟩ := st; wpAny_pyIter_enum he h
theorem callWith_tyKw {M : Model} {A : Around} {E : Value → Shared → Prop} {s : Shared} {pos : Pos} {T : String} {args : List (Bool × Sem Value)} {kws : List (Option Str × Sem Value)} {Q : Value → Shared → Prop} (hplain : args.any (·.1) = false) (hkw : kws.any (·.1.isNone) = false)
    (h : wpAny M A (evalArgs (.type T) true args kws) (fun a s₁ => wpAny M A (call (.type T) a.pos a.kw) Q E s₁) E s) : wpAny M A (callWith pos (.type T) [] args kws) Q E s := by
  unfold callWith
  refine wpAny_bind (wpAny_holding (wpAny_mono h (fun a s₁ h₁ => wpAny_bind (wpAny_standAt ?_)) fun _ _ x => x))
  simp only [hplain, hkw, Bool.or_false]
  refine wpAny_bind (wpAny_pure ?_)
  exact wpAny_bind (wpAny_mono h₁ (fun r s₂ hr => wpAny_bind (wpAny_holding (wpAny_point (wpAny_pure hr)))) fun _ _ x => x)
def iEnumT (K : PySem.W.Frag) (k0 : Int) (ta : TE) : TI := fun σ H R => ta σ H fun v H1 => ∃ a xs, v = .ref a ∧ SqT K H1 a xs ∧ R (IteT K a k0) H1
theorem pi_enumT {X : Cx} {e : Expr} {ta : TE} {p pos tpos cp kp : Pos} {elts : List Expr} {kk j : Nat} {k0 : Int} (h0 : -(2 ^ 63) ≤ k0) (h1 : k0 < 2 ^ 63) (hg : Gl X "enumerate") (hm : X.mg "enumerate" = none) (ha : PE X e ta) (hs : starEach [e] X.env = [(false, eval e X.env)]) :
    PI X (.Tuple elts kk tpos) (.Call (.Name "enumerate" p) [e] [⟨some "start", .Constant (.int k0) j cp, kp⟩] pos) (iEnumT X.K k0 ta) := by
  refine ⟨fun pins s σ H R I h => ?_⟩
  refine wpAny_Call_Name_kw (ld_blt I hg hm boot_enumerate ?_)
  refine callWith_tyKw (by rw [hs]; rfl) (by rfl) ?_
  refine PyProof.Rows.evalArgs_kw2 (by rfl) ?_ (by rw [hs]; rfl)
  rw [hs]
  refine Calls.spliced_cons (s := s) ?_
  rw [if_neg (by decide)]
  refine thn (ha.run pins s σ H _ I h) fun u s1 ⟨v, H1, I1, r, a, xs, ev, hq, q⟩ => ?_
  refine Calls.spliced_nil ?_
  refine kwAll_cons ?_
  refine thn ((pe_int (X := X)).run pins s1 σ H1 _ I1 (show tC (.int k0) σ H1 (fun y H2 => y = .int k0 ∧ SqT X.K H2 a xs ∧ R (IteT X.K a k0) H2) from ⟨rfl, hq, q⟩)) fun u2 s2 ⟨y, H2, I2, r2, ey, hq2, q2⟩ => ?_
  refine kwAll_nil ?_
  subst ev
  subst ey
  obtain ⟨tk, rfl⟩ := r2
  obtain rfl : u = Value.ref a := r
  obtain ⟨its, rv, p', hz⟩ := I2.tuple hq2
  have hal : a < s2.heap.objs.size := by obtain ⟨_, e, _⟩ := p'; exact Heap.lt_size e
  refine enum_begins_start (begins_tuple a its.toArray) p' h0 h1 fun h' he hit hsz hk => wpAny_pyIter_enum he ?_
  have I3 : Inv X pins σ H2 { s2 with heap := h' } := I2.kept (t' := s2.toks) hk
  refine ⟨s2.heap.objs.size + 1, [s2.heap.objs.size + 1, s2.heap.objs.size], _, _, H2, rfl, I3, turn_enumT a (s2.heap.objs.size + 1) s2.heap.objs.size k0, ⟨⟨.none, by simpa using he⟩, ⟨_, hit, rfl, rfl⟩, Nat.succ_ne_self _, Nat.ne_of_lt hal, fun z => Nat.lt_irrefl _ (Nat.lt_trans (Nat.lt_succ_self _) (z ▸ hal))⟩, fun b hb => ?_, q2⟩
  have e' : b = s2.heap.objs.size + 1 ∨ b = s2.heap.objs.size := by simpa using hb
  have hle : s2.heap.objs.size ≤ b := by
    rcases e' with z | z
    · rw [z]; exact Nat.le_add_right _ _
    · rw [z]; exact Nat.le_refl _
  exact I2.fpOk hle (I2.hok.fresh hle)
end Pv
namespace Pv
open PySem PySem.Spec PySem.Calls PySem.W PyProof.Rows
theorem meets_enumerate_newB1 {v : Value} {o : Obj} {H : Heap → Prop} (B : Begins v o H) :
    Meets (Builtin.«enumerate.__new__» ⟨[.type "enumerate", v], []⟩) (fun _ R s => H s.heap ∧
      R (.ok (.ret (.ref (s.heap.push o).objs.size))) { s with heap := (s.heap.push o).push { cls := .type "enumerate", data := .fields #[.none, .bool false, .ref s.heap.objs.size, rawInt 0, .none, .none] } }) :=
  .of_wp fun prog w A R s h => by
    obtain ⟨hp, g, d, tk, os⟩ := s; obtain ⟨h1, h⟩ := h
    have hsub := sub_enumerate
    have q1 : ∀ {A' : Around} {E : Value → Shared → Prop} {Q : Value → Shared → Prop}, Q (.ref hp.objs.size) ⟨hp.push o, g, d, tk, os⟩ → wpAny (model prog w) A' (pyIter v) Q E ⟨hp, g, d, tk, os⟩ :=
      fun q => B.iter prog w _ _ ⟨hp, g, d, tk, os⟩ _ h1 q
    wp_walk using q1
    refine wpAny_stack_any fun st => wpAny_pure ?_
    split
    · rename_i c _ _ _ _ _
      cases (c == Value.type "enumerate")
      · wp_walk using q1
        exact ⟨_, rfl, h⟩
      · wp_walk using q1
        exact ⟨_, rfl, h⟩
    · wp_walk using q1
      exact ⟨_, rfl, h⟩
section
variable {prog : Program} {w : World} {A : Around} {E : Value → Shared → Prop} {s : Shared}
theorem enum_begins1 {v : Value} {o : Obj} {H : Heap → Prop} {Q : Value → Shared → Prop} (B : Begins v o H) (h1 : H s.heap)
    (h : ∀ h', IsEnum h' (s.heap.objs.size + 1) s.heap.objs.size 0 .none → h'.get? s.heap.objs.size = some o → h'.objs.size = s.heap.objs.size + 2 →
      (∀ b o, s.heap.get? b = some o → h'.get? b = some o) → Q (.ref (s.heap.objs.size + 1)) { s with heap := h' }) :
    wpAny (model prog w) A (call (.type "enumerate") [v]) Q E s := by
  refine callType_new F.called_enumerate (by decide) (F.typeCall_enumerate_1 _) (F.newCall_enumerate_1 _) (fun obj => F.args_object_init_2 obj _) F.entry_enumerate_new
    (meets_enumerate_newB1 B) ⟨h1, ?_⟩
  have hz : (s.heap.push o).objs.size = s.heap.objs.size + 1 := Heap.size_push ..
  show _ ∧ _
  rw [hz]
  have he : IsEnum ((s.heap.push o).push { cls := .type "enumerate", data := .fields #[.none, .bool false, .ref s.heap.objs.size, rawInt 0, .none, .none] }) (s.heap.objs.size + 1) s.heap.objs.size 0 .none := by
    have := Heap.get?_push_size (s.heap.push o) (o := { cls := .type "enumerate", data := .fields #[.none, .bool false, .ref s.heap.objs.size, rawInt 0, .none, .none] }) rfl
    rw [hz] at this; exact this
  refine ⟨⟨_, he, rfl⟩, h _ he (Heap.get?_push_of_some _ (Heap.get?_push_size _ B.free)) (by rw [Heap.size_push, hz]) fun b o x => Heap.get?_push_of_some _ (Heap.get?_push_of_some _ x)⟩
end
end Pv
namespace Pv
open PySem PySem.Spec PyProof.Rows L2
/-- enumerate(x), x a list or a tuple -/
def iEnumB (K : PySem.W.Frag) (ta : TA) : TI := fun σ H R => ta σ H fun vs H1 => ∃ a xs, vs = [.ref a] ∧ ((SqL K H1 a xs ∧ R (Ite K a) H1) ∨ (SqT K H1 a xs ∧ R (IteT K a 0) H1))
theorem pi_enumB {X : Cx} {e : Expr} {ta : TA} {p pos tpos : Pos} {elts : List Expr} {kk : Nat} (hg : Gl X "enumerate") (hm : X.mg "enumerate" = none) (ha : PA X [e] ta) (hs : starEach [e] X.env = [(false, eval e X.env)] := by rfl) :
    PI X (.Tuple elts kk tpos) (.Call (.Name "enumerate" p) [e] [] pos) (iEnumB X.K ta) := by
  refine ⟨fun pins s σ H R I h => ?_⟩
  refine Call_ (ld_blt I hg hm boot_enumerate (PyProof.Rows.callWith_type1 (thn (ha.run pos pins s σ H _ I h) fun us s1 ⟨vs, H1, I1, r1, q1⟩ => ?_) hs rfl))
  obtain ⟨a, xs, ex, q⟩ := q1
  subst ex
  cases r1 with
  | cons r rr =>
    cases rr
    cases r
    have fp : ∀ b ∈ [s1.heap.objs.size + 1, s1.heap.objs.size], s1.heap.objs.size ≤ b := fun b hb => by
      have e' : b = s1.heap.objs.size + 1 ∨ b = s1.heap.objs.size := by simpa using hb
      rcases e' with z | z
      · rw [z]; exact Nat.le_add_right _ _
      · rw [z]; exact Nat.le_refl _
    rcases q with ⟨hq, q⟩ | ⟨hq, q⟩
    · obtain ⟨its, rv, p', hz⟩ := I1.list hq
      refine call_enumerate_list p'.isList fun h' he hit hsz hk => wpAny_pyIter_enum he ?_
      have I2 : Inv X pins σ H1 { s1 with heap := h' } := I1.kept (t' := s1.toks) hk
      exact ⟨s1.heap.objs.size + 1, [s1.heap.objs.size + 1, s1.heap.objs.size], _, _, H1, rfl, I2, turn_enum a (s1.heap.objs.size + 1) s1.heap.objs.size, ⟨⟨.none, he⟩, hit, Nat.succ_ne_self _⟩, fun b hb => I1.fpOk (fp b hb) (I1.hok.fresh (fp b hb)), q⟩
    · obtain ⟨its, rv, p', hz⟩ := I1.tuple hq
      have hal : a < s1.heap.objs.size := by obtain ⟨_, e, _⟩ := p'; exact Heap.lt_size e
      refine enum_begins1 (begins_tuple a its.toArray) p' fun h' he hit hsz hk => wpAny_pyIter_enum he ?_
      have I2 : Inv X pins σ H1 { s1 with heap := h' } := I1.kept (t' := s1.toks) hk
      exact ⟨s1.heap.objs.size + 1, [s1.heap.objs.size + 1, s1.heap.objs.size], _, _, H1, rfl, I2, turn_enumT a (s1.heap.objs.size + 1) s1.heap.objs.size 0, ⟨⟨.none, by simpa using he⟩, ⟨_, hit, rfl, rfl⟩, Nat.succ_ne_self _, Nat.ne_of_lt hal, fun z => Nat.lt_irrefl _ (Nat.lt_trans (Nat.lt_succ_self _) (z ▸ hal))⟩, fun b hb => I1.fpOk (fp b hb) (I1.hok.fresh (fp b hb)), q⟩
end Pv
namespace Pv
open PySem PySem.Spec PyProof.Rows L2
/-! ## targets -/
def PoG (K : PySem.W.Frag) (z : Zo) (F : Zn) (io : List Addr) (H : Hp) (e' : En) (st' : Sto) (σ' : L2.St) (H' : Hp) : Prop := ∃ F' io', Ext F io H F' io' H' ∧ SR K z F' io' e' st' σ' H'
def XS (p : Px) (F : Zn) (io : List Addr) (H : Hp) : Xc → En → Sto → Prop := fun x e' st' => ∀ σ' cls d H', PoX p F io H e' st' σ' x cls d H' → p.W cls d σ' H'
/-- nothing but these slots has changed -/
def Off (vs : List Nat) (σ σ' : L2.St) : Prop := σ'.length = σ.length ∧ ∀ i, i ∉ vs → σ'[i]? = σ[i]?
theorem Off.refl (vs : List Nat) (σ : L2.St) : Off vs σ σ := ⟨rfl, fun _ _ => rfl⟩
mutual
def tgs : T → List Nat
  | .nm i => [i]
  | .tp ts => tgss ts
  | _ => []
def tgss : Ts → List Nat
  | .nil => []
  | .cons t r => tgs t ++ tgss r
end
theorem Off.cons {a b : List Nat} {σ σ1 σ2 : L2.St} (h : Off a σ σ1) (h' : Off b σ1 σ2) : Off (a ++ b) σ σ2 := ⟨h'.1.trans h.1, fun i hi => by
  simp only [List.mem_append, not_or] at hi
  exact (h'.2 i hi.2).trans (h.2 i hi.1)⟩
def gtv (p : Px) (t : T) : TG := fun v σ H Q => ∃ F io e st r, SR p.K p.z F io e st σ H ∧ VR p.K p.z H F io e σ v r ∧
  Res (asg p.B p.G t r e st) (fun _ e' st' => ∀ σ' H', Off (tgs t) σ σ' → PoG p.K p.z F io H e' st' σ' H' → Q σ' H') (XS p F io H)
def gtvs (p : Px) (t : Ts) : TGs := fun vs σ H Q => ∃ F io e st ds, SR p.K p.z F io e st σ H ∧ RepL p.K H F io vs ds ∧ ds.length = tsLen t ∧
  Res (asgs p.B p.G t ds e st) (fun _ e' st' => ∀ σ' H', Off (tgss t) σ σ' → PoG p.K p.z F io H e' st' σ' H' → Q σ' H') (XS p F io H)
section
variable {p : Px} {X : Cx} {F F' : Zn} {io io' : List Addr} {H H' : Hp} {e : En} {st : Sto} {σ : L2.St} {a b : Expr} {l : List Expr} {pos : Pos}
theorem XS.ext {x : Xc} {e' : En} {st' : Sto} (y : Ext F io H F' io' H') (h : XS p F io H x e' st') : XS p F' io' H' x e' st' := fun σ' cls d H2 ⟨F2, io2, y2, s, r⟩ => h σ' cls d H2 ⟨F2, io2, y.trans y2, s, r⟩
theorem XS.xw {x : Xc} {e' : En} {st' : Sto} (h : XS p F io H x e' st') : XW p F io H σ x e' st' := fun cls d H2 po => h σ cls d H2 po
theorem PoG.ext {e' : En} {st' : Sto} {σ' : L2.St} {H2 : Hp} (y : Ext F io H F' io' H') (h : PoG p.K p.z F' io' H' e' st' σ' H2) : PoG p.K p.z F io H e' st' σ' H2 := let ⟨F2, io2, y2, s⟩ := h; ⟨F2, io2, y.trans y2, s⟩
/-- a value is bound to a name -/
theorem SR.put {K : PySem.W.Frag} {z : Zo} {i : Nat} {v : V} {r : DB} (s : SR K z F io e st σ H) (h : VR K z H F io e σ v r) (hi : i < e.length) : SR K z F io (putN e i r) st (σ.set i (some v)) H := by
  have hi' : i < σ.length := by rw [← s.el]; exact hi
  obtain ⟨d, w⟩ := r
  refine ⟨s.cel, by simp [putN, s.el], fun j d' q => ?_, fun j d' q => ?_, fun j k d1 d2 b q1 q2 g1 g2 => ?_, s.frm, s.pre, s.fnw, fun j x q => by
      unfold putN at q
      by_cases hj : i = j
      · subst hj
        rw [List.getElem?_set_self hi] at q
        cases w <;> cases q
      · rw [List.getElem?_set_ne hj] at q ⊢
        exact s.xc j x q⟩
  · unfold putN at q
    by_cases hj : i = j
    · subst hj
      rw [List.getElem?_set_self hi] at q
      rw [List.getElem?_set_self hi']
      cases w with
      | true => cases q
      | false => cases q; exact ⟨v, rfl, h⟩
    · rw [List.getElem?_set_ne hj] at q ⊢
      exact s.fr j d' q
  · unfold putN at q
    by_cases hj : i = j
    · subst hj
      rw [List.getElem?_set_self hi] at q
      rw [List.getElem?_set_self hi']
      cases w with
      | true =>
        cases q
        obtain ⟨a, rfl, h1, h2, h3, h4, _⟩ := h
        exact ⟨a, rfl, h1, h2, h3, h4⟩
      | false => cases q
    · rw [List.getElem?_set_ne hj] at q ⊢
      exact s.ow j d' q
  · unfold putN at q1 q2
    by_cases hj : i = j
    · by_cases hk : i = k
      · exact hj.symm.trans hk
      · exfalso
        subst hj
        rw [List.getElem?_set_self hi] at q1
        rw [List.getElem?_set_ne hk] at q2 g2
        rw [List.getElem?_set_self hi'] at g1
        cases w with
        | true =>
          obtain ⟨a, rfl, _, _, _, _, n⟩ := h
          cases g1
          exact n k d2 q2 g2
        | false => cases q1
    · by_cases hk : i = k
      · exfalso
        subst hk
        rw [List.getElem?_set_self hi] at q2
        rw [List.getElem?_set_ne hj] at q1 g1
        rw [List.getElem?_set_self hi'] at g2
        cases w with
        | true =>
          obtain ⟨a, rfl, _, _, _, _, n⟩ := h
          cases g2
          exact n j d1 q1 g1
        | false => cases q2
      · rw [List.getElem?_set_ne hj] at q1 g1
        rw [List.getElem?_set_ne hk] at q2 g2
        exact s.sep j k d1 d2 b q1 q2 g1 g2
theorem VR.frz {K : PySem.W.Frag} {z : Zo} {v : V} {r : DB} (s : SR K z F io e st σ H) (h : VR K z H F io e σ v r) : ∃ F', Ext F io H F' io H ∧ SR K z F' io e st σ H ∧ Rep K H F' io v r.1 := by
  have po : PoE K z F io H e st σ r v H := ⟨F, io, .refl .., s, h⟩
  unfold VR at h
  split at h
  · obtain ⟨a, rfl, ho, n1, n2, n3, n4⟩ := h
    exact ⟨fzn F a, ext_fzn, s.freeze ho.there n2 n4 n3, ho.rep⟩
  · exact ⟨F, .refl .., s, h⟩
theorem PG.imp {tg : Expr} {t t' : TG} (h : PG X tg t) (i : ∀ v σ H Q, t' v σ H Q → t v σ H Q) : PG X tg t' := ⟨fun pins s σ H v u Q I r q => h.run pins s σ H v u Q I r (i _ _ _ _ q)⟩
theorem PGs.imp {tg : List Expr} {t t' : TGs} (h : PGs X tg t) (i : ∀ v σ H Q, t' v σ H Q → t v σ H Q) : PGs X tg t' := ⟨fun pins s σ H v u Q I r q => h.run pins s σ H v u Q I r (i _ _ _ _ q)⟩
theorem g_name {i : Nat} {x : Str} (hN : X.N.Nodup) (hi : X.N[i]? = some x) (hx : Loc X.env.scope x) (hf : X.fn x = true ∨ X.env.scope.names.lookup x = some .local) : PG X (.Name x pos) (gtv p (.nm i)) := by
  refine PG.imp (pg_name hN hi hx hf) fun v σ H Q ⟨F, io, e, st, r, s, hv, k⟩ => ?_
  rw [asg] at k
  split at k
  · rename_i hl
    exact k _ _ ⟨by simp, fun j hj => by simp only [tgs, List.mem_singleton] at hj; exact List.getElem?_set_ne (fun q => hj q.symm)⟩ ⟨F, io, .refl .., s.put hv hl⟩
  · exact k.elim
structure GOK (X : Cx) (p : Px) (tg : Expr) (t : T) : Prop where
  pg : PG X tg (gtv p t)
  ns : ∀ es, assignEach (tg :: es) X.env = (false, assign tg X.env) :: assignEach es X.env
inductive GsOK (X : Cx) (p : Px) : Ts → List Expr → Prop
  | nil : GsOK X p .nil []
  | cons {t : T} {r : Ts} {ex : Expr} {l : List Expr} : GOK X p ex t → GsOK X p r l → GsOK X p (.cons t r) (ex :: l)
theorem GsOK.len {t : Ts} (h : GsOK X p t l) : (assignEach l X.env).length = tsLen t := by
  induction h with
  | nil => rfl
  | cons a _ ih => rw [a.ns, List.length_cons, ih]; rfl
theorem GsOK.star {t : Ts} (h : GsOK X p t l) : (assignEach l X.env).findIdx? (·.1) = none := by
  have : ∀ x ∈ assignEach l X.env, x.1 = false := by
    induction h with
    | nil => intro x hx; cases hx
    | cons a _ ih =>
      intro x hx
      rw [a.ns] at hx
      rcases List.mem_cons.mp hx with rfl | hx
      · rfl
      · exact ih x hx
  rw [List.findIdx?_eq_none_iff]
  intro x hx
  simpa using this x hx
theorem GsOK.pgs {t : Ts} (h : GsOK X p t l) : PGs X l (gtvs p t) := by
  induction h with
  | nil =>
    refine PGs.imp pgs_nil fun vs σ H Q ⟨F, io, e, st, ds, s, r, hl, k⟩ => ?_
    cases ds with
    | nil =>
      cases r
      exact ⟨rfl, k _ _ (.refl ..) ⟨F, io, .refl .., s⟩⟩
    | cons _ _ => cases hl
  | @cons t r' ex l' a h' ih =>
    refine PGs.imp (pgs_cons a.pg ih (by rw [a.ns]; rfl)) fun vs σ H Q ⟨F, io, e, st, ds, s, r, hl, k⟩ => ?_
    cases ds with
    | nil => cases hl
    | cons d ds =>
      cases r with
      | @cons v vs d ds r1 r2 =>
        refine ⟨v, vs, rfl, F, io, e, st, (d, false), s, r1, ?_⟩
        rw [asgs] at k
        refine k.of_bind.mono (fun _ e' st' k σ' H' of po => ?_) fun _ _ _ x => x
        obtain ⟨F', io', y, s'⟩ := po
        exact ⟨F', io', e', st', ds, s', r2.ext y, by simpa [tsLen] using hl, k.mono (fun _ _ _ q σ2 H2 of2 po2 => q σ2 H2 (of.cons of2) (PoG.ext y po2)) fun _ _ _ x => XS.ext y x⟩
theorem g_tup {t : Ts} {k0 : Nat} (hK : X.K = p.K) (hc : X.calm = true) (h : GsOK X p t l) : PG X (.Tuple l k0 pos) (gtv p (.tp t)) := by
  refine PG.imp (pg_tup hc h.pgs h.len h.star) fun v σ H Q ⟨F, io, e, st, r, s, hv, k⟩ => ?_
  rw [asg] at k
  obtain ⟨d, w⟩ := r
  cases d <;> try exact k.elim
  rename_i xs
  have k : Res (if xs.length = tsLen t then asgs p.B p.G t xs e st else .no) _ _ := k
  split at k
  · rename_i hl
    obtain ⟨F1, y, s1, hr⟩ := hv.frz s
    cases hr with
    | @tup a vs ds hs hl' =>
      exact ⟨a, vs, rfl, hK ▸ hs, by rw [hl'.length]; exact hl, F1, io, e, st, xs, s1, hl', hl, k.mono (fun _ _ _ q σ2 H2 of2 po2 => q σ2 H2 of2 (PoG.ext y po2)) fun _ _ _ x => XS.ext y x⟩
  · exact k.elim
theorem set_dic (hu : X.A.units + 1 < cLine) : PSet X (fun o i v H Q => ∃ a H4, o = .ref a ∧ DPut H a i v H4 ∧ Q H4) := by
  intro pins s σ H o i v ov iv u Q I ro ri rv h
  obtain ⟨a, H4, rfl, g, q⟩ := h
  cases ro
  exact d_setItem hu I g ri rv fun s' I' => ⟨H4, I', q⟩
theorem set_any (hu : X.A.units + 1 < cLine) : PSet X (fun o i v H Q => rSetL o i v H Q ∨ ∃ a H4, o = .ref a ∧ DPut H a i v H4 ∧ Q H4) := by
  intro pins s σ H o i v ov iv u Q I ro ri rv h
  exact h.elim (set_list pins s σ H o i v ov iv u Q I ro ri rv) (set_dic hu pins s σ H o i v ov iv u Q I ro ri rv)
theorem set_ok {K : PySem.W.Frag} {x k v : D} {r x' : D} {a : Addr} {u : HO} {vk vv : V} {Q : Hp → Prop} (ha : H a = some u) (hf : ((setD x k v).map fun x' => (D.none, x')) = some (r, x')) (h2 : HoR K H F io u x) (hk : Rep K H F io vk k) (hv : Rep K H F io vv v)
    (q : ∀ u', HoR K H F io u' x' → Q (upd H a u')) : rSetL (.ref a) vk vv H Q ∨ ∃ b H4, V.ref a = .ref b ∧ DPut H b vk vv H4 ∧ Q H4 := by
  unfold setD at hf
  simp only [Option.map_eq_some_iff] at hf
  obtain ⟨y, hy, e⟩ := hf
  cases e
  split at hy
  · simp only [Option.map_eq_some_iff] at hy
    obtain ⟨j, hj, rfl⟩ := hy
    cases hk
    cases h2 with
    | lst h2 => exact .inl ⟨a, _, _, j, rfl, rfl, ha, by rw [h2.length]; exact hj, q _ (.lst (h2.set j hv))⟩
  · split at hy
    · rename_i kk _ hkey
      cases hy
      cases h2 with
      | dic h2 =>
        refine .inr ⟨a, _, rfl, .inl ⟨_, k.toKey, ha, RO.key (.inl hk) hkey.1, by rw [h2.length, ← sizeMax_eq]; exact hkey.2, rfl⟩, q _ (.dic ?_)⟩
        have := h2.put (k := k.toKey) hv
        rw [← key_is hkey.1] at this
        exact this
    · cases hy
  · cases hy
theorem EOK.sa {ex o : Expr} {c : E} (h : EOK X p ex c) (v : Value) : assign (.Subscript o ex pos) X.env v = (do
      let ov ← holding [v] (eval o X.env)
      let iv ← holding [v, ov] (eval ex X.env)
      standAt pos
      holding [v, ov, iv] (setItem ov iv v)
      release [v, ov, iv] []) := by
  have := h.nsl
  cases ex <;> first | rfl | exact absurd rfl (this _ _ _ _)
theorem g_sbv {n : Nat} {x : Str} {ci : E} {xp : Pos} (hu : X.A.units + 1 < cLine) (hN : X.N[n]? = some x) (hvis : Vis X.env.scope x) (hd : (x == ("__debug__" : Str)) = false) (hcd : (x == ("__classdict__" : Str)) = false) (hi : EOK X p b ci) : PG X (.Subscript (.Name x xp) b pos) (gtv p (.sbv n ci)) := by
  refine PG.imp (pg_sub (pe_var hN hvis hd hcd) hi.pe (set_any hu) hi.sa) fun v σ H Q ⟨F, io, e, st, r, s, hv, k⟩ => ?_
  rw [asg] at k
  split at k
  · rename_i hdf
    obtain ⟨vo, hσ⟩ := isDef_slot s hdf
    obtain ⟨F1, y, s1, hr⟩ := hv.frz s
    refine ⟨vo, hσ, F1, io, e, st, s1, k.of_bind.mono (fun kk e' st' k vk H' po => ?_) fun _ _ _ x => (XS.ext y x).xw⟩
    obtain ⟨F2, io2, y2, s2, hk⟩ := po.frz
    obtain ⟨a, u, x, r', x', rfl, g1, g2, hf, g4⟩ := chgS_po s2 hσ k.of_bind
    refine set_ok g1 hf g2 hk (hr.ext y2) fun u' g6 => ?_
    obtain ⟨e2, st2, k, y3, s3⟩ := g4 _ g6
    exact k _ _ (.refl ..) ⟨F2, io2, (y.trans y2).trans y3, s3⟩
  · exact k.elim
theorem g_sbo {co ci : E} (hu : X.A.units + 1 < cLine) (ho : EOK X p a co) (hi : EOK X p b ci) : PG X (.Subscript a b pos) (gtv p (.sbo co ci)) := by
  refine PG.imp (pg_sub ho.pe hi.pe (set_any hu) hi.sa) fun v σ H Q ⟨F, io, e, st, r, s, hv, k⟩ => ?_
  rw [asg] at k
  obtain ⟨F1, y, s1, hr⟩ := hv.frz s
  refine ⟨F1, io, e, st, s1, k.of_bind.mono (fun oo e' st' k vo H' po => ?_) fun _ _ _ x => (XS.ext y x).xw⟩
  obtain ⟨F2, io2, y2, s2, ho⟩ := po.frz
  refine ⟨F2, io2, e', st', s2, k.of_bind.mono (fun kk e2 st2 k vk H2 po => ?_) fun _ _ _ x => (XS.ext (y.trans y2) x).xw⟩
  obtain ⟨F3, io3, y3, s3, hk⟩ := po.frz
  obtain ⟨a, u, x, r', x', rfl, g1, g2, hf, g4⟩ := chgO_po s3 (ho.ext y3) k.of_bind
  refine set_ok g1 hf g2 hk ((hr.ext y2).ext y3) fun u' g6 => ?_
  obtain ⟨e4, st4, k, y4, s4⟩ := g4 _ g6
  exact k _ _ (.refl ..) ⟨F3, io3, ((y.trans y2).trans y3).trans y4, s4⟩
end

/-! ## what is walked -/
structure ItOK (K : PySem.W.Frag) (J : It) (F : Zn) (io : List Addr) (H : Hp) (items : List D) : Prop where
  go : ∀ (i : Nat) (d : D) (F1 : Zn) (io1 : List Addr) (H1 : Hp), Ext F io H F1 io1 H1 → (∀ a, F1 a → ∃ u, H1 a = some u) → items[i]? = some d → J.go i H1 ∧ ∀ x H2, J.yld i H1 x H2 → (H2 = H1 ∨ ∃ T xs, H1 T = none ∧ H2 = upd H1 T (.tup xs)) ∧ Rep K H2 F1 io1 x d
  stop : ∀ (F1 : Zn) (io1 : List Addr) (H1 : Hp), Ext F io H F1 io1 H1 → J.stop items.length H1
def tit (p : Px) (it : I) : TI := fun σ H R => ∃ F io e st, SR p.K p.z F io e st σ H ∧
  Res (its p.B p.G it e st) (fun items e' st' => ∀ J H', (∃ F' io', Ext F io H F' io' H' ∧ SR p.K p.z F' io' e' st' σ H' ∧ ItOK p.K J F' io' H' items) → R J H') (XW p F io H σ)
section
variable {p : Px} {X : Cx} {F F' : Zn} {io io' : List Addr} {H H' : Hp} {e : En} {st : Sto} {σ : L2.St} {a b tg : Expr} {l : List Expr} {pos : Pos} {c : E}
theorem PI.imp {iter : Expr} {t t' : TI} (h : PI X tg iter t) (i : ∀ σ H R, t' σ H R → t σ H R) : PI X tg iter t' := ⟨fun pins s σ H R I q => h.run pins s σ H R I (i _ _ _ q)⟩
theorem PI.or {iter : Expr} {t t' : TI} (h : PI X tg iter t) (h' : PI X tg iter t') : PI X tg iter (fun σ H R => t σ H R ∨ t' σ H R) := ⟨fun pins s σ H R I q => q.elim (h.run pins s σ H R I) (h'.run pins s σ H R I)⟩
theorem it_list {K : PySem.W.Frag} {a : Addr} {xs : List V} {ds : List D} (h : LsF K H F a xs) (r : RepL K H F io xs ds) : ItOK K (Itl K a) F io H ds where
  go := fun i d F1 io1 H1 y _ hd => by
    have h1 : SqL K H1 a xs := (h.ext y).sq
    obtain ⟨v, g1, g2⟩ := r.get hd
    refine ⟨⟨xs, v, h1, g1⟩, fun x H2 q => ?_⟩
    obtain ⟨rfl, q⟩ := q
    have := q xs h1
    rw [g1] at this
    cases this
    exact ⟨.inl rfl, g2.ext y⟩
  stop := fun F1 io1 H1 y => ⟨xs, (h.ext y).sq, by rw [r.length]; exact Nat.le_refl _⟩
theorem it_tup {K : PySem.W.Frag} {a : Addr} {xs : List V} {ds : List D} (h : SqT K H a xs) (r : RepL K H F io xs ds) : ItOK K (Itt K a) F io H ds where
  go := fun i d F1 io1 H1 y _ hd => by
    have h1 : SqT K H1 a xs := sqT_ext y h
    obtain ⟨v, g1, g2⟩ := r.get hd
    refine ⟨⟨xs, v, h1, g1⟩, fun x H2 q => ?_⟩
    obtain ⟨rfl, q⟩ := q
    have := q xs h1
    rw [g1] at this
    cases this
    exact ⟨.inl rfl, g2.ext y⟩
  stop := fun F1 io1 H1 y => ⟨xs, sqT_ext y h, by rw [r.length]; exact Nat.le_refl _⟩
theorem it_str {K : PySem.W.Frag} {z : Str} : ItOK K (Its z) F io H (z.cps.toList.map fun c => D.str ⟨#[c]⟩) where
  go := fun i d F1 io1 H1 y _ hd => by
    simp only [List.getElem?_map, Option.map_eq_some_iff] at hd
    obtain ⟨c, hc, rfl⟩ := hd
    have hc' : z.cps[i]? = some c := by rw [← Array.getElem?_toList]; exact hc
    have hlt : i < z.cps.size := (Array.getElem?_eq_some_iff.mp hc').1
    refine ⟨hlt, fun x H2 q => ?_⟩
    obtain ⟨rfl, c', q1, rfl⟩ := q
    rw [hc'] at q1
    cases q1
    exact ⟨.inl rfl, .str _⟩
  stop := fun F1 io1 H1 y => by simp [Its]
theorem it_rng {K : PySem.W.Frag} {lo hi : Int} : ItOK K (Itr lo (hi - lo).toNat) F io H (rangeL lo hi) where
  go := fun i d F1 io1 H1 y _ hd => by
    unfold rangeL at hd
    simp only [List.getElem?_map, Option.map_eq_some_iff] at hd
    obtain ⟨j, hj, rfl⟩ := hd
    have hlt := (List.getElem?_eq_some_iff.mp hj).1
    rw [List.getElem?_range (by simpa using hlt)] at hj
    cases hj
    refine ⟨by show i < (hi - lo).toNat; simpa using hlt, fun x H2 q => ?_⟩
    obtain ⟨rfl, rfl⟩ := q
    exact ⟨.inl rfl, .int _⟩
  stop := fun F1 io1 H1 y => by show (hi - lo).toNat ≤ _; rw [rangeL, List.length_map, List.length_range]; exact Nat.le_refl _
theorem it_rev {K : PySem.W.Frag} {a : Addr} {xs : List V} {ds : List D} (h : LsF K H F a xs) (r : RepL K H F io xs ds) : ItOK K (Itv K a xs.length) F io H ds.reverse where
  go := fun i d F1 io1 H1 y _ hd => by
    have h1 : SqL K H1 a xs := (h.ext y).sq
    have hlt : i < ds.length := by simpa using (List.getElem?_eq_some_iff.mp hd).1
    rw [List.getElem?_reverse hlt, ← r.length] at hd
    obtain ⟨v, g1, g2⟩ := r.get hd
    refine ⟨⟨by rw [r.length]; exact hlt, xs, v, h1, g1⟩, fun x H2 q => ?_⟩
    obtain ⟨rfl, q⟩ := q
    have := q xs h1
    rw [g1] at this
    cases this
    exact ⟨.inl rfl, g2.ext y⟩
  stop := fun F1 io1 H1 y => by simp [Itv, r.length]
theorem it_revT {K : PySem.W.Frag} {a : Addr} {xs : List V} {ds : List D} (h : SqT K H a xs) (r : RepL K H F io xs ds) : ItOK K (RT.ItvT K a xs.length) F io H ds.reverse where
  go := fun i d F1 io1 H1 y _ hd => by
    have h1 : SqT K H1 a xs := sqT_ext y h
    have hlt : i < ds.length := by simpa using (List.getElem?_eq_some_iff.mp hd).1
    rw [List.getElem?_reverse hlt, ← r.length] at hd
    obtain ⟨v, g1, g2⟩ := r.get hd
    refine ⟨⟨by rw [r.length]; exact hlt, xs, v, h1, g1⟩, fun x H2 q => ?_⟩
    obtain ⟨rfl, q⟩ := q
    have := q xs h1
    rw [g1] at this
    cases this
    exact ⟨.inl rfl, g2.ext y⟩
  stop := fun F1 io1 H1 y => by simp [RT.ItvT, r.length]
theorem it_rvg {K : PySem.W.Frag} {lo hi : Int} : ItOK K (Itc (lo + (((hi - lo).toNat : Nat) : Int) - 1) (-1) (hi - lo).toNat) F io H (rangeL lo hi).reverse where
  go := fun i d F1 io1 H1 y _ hd => by
    have hn : (rangeL lo hi).length = (hi - lo).toNat := by unfold rangeL; rw [List.length_map, List.length_range]
    have hlt : i < (rangeL lo hi).length := by simpa using (List.getElem?_eq_some_iff.mp hd).1
    rw [List.getElem?_reverse hlt] at hd
    unfold rangeL at hd
    rw [List.length_map, List.length_range] at hd
    simp only [List.getElem?_map, Option.map_eq_some_iff] at hd
    obtain ⟨j, hj, rfl⟩ := hd
    have hlt2 := (List.getElem?_eq_some_iff.mp hj).1
    rw [List.getElem?_range (by simpa using hlt2)] at hj
    cases hj
    rw [hn] at hlt
    refine ⟨hlt, fun x H2 q => ?_⟩
    obtain ⟨rfl, rfl⟩ := q
    have e : lo + (((hi - lo).toNat : Nat) : Int) - 1 + ((i : Nat) : Int) * (-1) = lo + (((hi - lo).toNat - 1 - i : Nat) : Int) := by omega
    rw [e]
    exact ⟨.inl rfl, .int _⟩
  stop := fun F1 io1 H1 y => by show (hi - lo).toNat ≤ _; rw [List.length_reverse, rangeL, List.length_map, List.length_range]; exact Nat.le_refl _
theorem i_it (S : Sok p X) (h : EOK X p a c) : PI X tg a (tit p (.it c)) := by
  refine PI.imp (Pv.PI.or (pi_list h.pe) (Pv.PI.or (pi_tup h.pe) (pi_str h.pe))) fun σ H R ⟨F, io, e, st, s, k⟩ => ?_
  rw [its] at k
  cases hR : ev p.B p.G c e st with
  | no => rw [hR] at k; exact k.elim
  | ex x e' st' =>
    rw [hR] at k
    exact .inl ⟨F, io, e, st, s, by rw [hR]; exact k⟩
  | ok r e' st' =>
    rw [hR] at k
    obtain ⟨d, w⟩ := r
    have k : Res (match itemsD d with | some xs => Pv.R.ok xs e' st' | none => Pv.R.no) _ _ := k
    cases d <;> try exact k.elim
    · refine .inr (.inr ⟨F, io, e, st, s, ?_⟩)
      rw [hR]
      intro v H' po
      obtain ⟨F', io', y, s', q⟩ := po.frz
      cases q
      exact ⟨_, rfl, k _ _ ⟨F', io', y, s', it_str⟩⟩
    · refine .inr (.inl ⟨F, io, e, st, s, ?_⟩)
      rw [hR]
      intro v H' po
      obtain ⟨F', io', y, s', q⟩ := po.frz
      cases q with
      | @tup a xs ds h1 h2 => exact ⟨a, rfl, ⟨xs, S.K ▸ h1⟩, by rw [S.K]; exact k _ _ ⟨F', io', y, s', it_tup h1 h2⟩⟩
    · refine .inl ⟨F, io, e, st, s, ?_⟩
      rw [hR]
      intro v H' po
      obtain ⟨F', io', y, s', q⟩ := po.frz
      cases q with
      | @lst a xs ds h1 h2 => exact ⟨a, rfl, ⟨xs, S.K ▸ h1.sq⟩, by rw [S.K]; exact k _ _ ⟨F', io', y, s', it_list h1 h2⟩⟩
theorem small_of {i : Int} (h : small62 i = true) : -(2 ^ 62) ≤ i ∧ i < 2 ^ 62 := by
  unfold small62 at h; simpa using h
theorem i_rg1 {pp : Pos} (S : Sok p X) (hg : Gl X "range") (h : EOK X p a c) : PI X tg (.Call (.Name "range" pp) [a] [] pos) (tit p (.rg1 c)) := by
  refine PI.imp (pi_range1 hg (S.blt _ (by simp [bltAll])) (pa_cons h.pe pa_nil (h.ns _)) (h.ns _)) fun σ H R ⟨F, io, e, st, s, k⟩ => ?_
  rw [its] at k
  refine ⟨F, io, e, st, s, k.of_bind.mono (fun r e' st' k v H' po => ?_) fun _ _ _ x => x⟩
  obtain ⟨d, w⟩ := r
  obtain ⟨F', io', y, s', q⟩ := po.frz
  cases d <;> try exact k.elim
  rename_i j
  have k : Res (if small62 j then Pv.R.ok (rangeL 0 j) e' st' else Pv.R.no) _ _ := k
  split at k
  · rename_i hs
    cases q
    refine ⟨j, rfl, (small_of hs).1, (small_of hs).2, k _ _ ⟨F', io', y, s', ?_⟩⟩
    have := it_rng (K := p.K) (F := F') (io := io') (H := H') (lo := 0) (hi := j)
    rw [Int.sub_zero] at this
    exact this
  · exact k.elim
theorem i_rg2 {pp : Pos} {c2 : E} (S : Sok p X) (hg : Gl X "range") (h : EOK X p a c) (h2 : EOK X p b c2) : PI X tg (.Call (.Name "range" pp) [a, b] [] pos) (tit p (.rg2 c c2)) := by
  refine PI.imp (pi_range2 hg (S.blt _ (by simp [bltAll])) (pa_cons h.pe (pa_cons h2.pe pa_nil (h2.ns _)) (h.ns _)) (by rw [h.ns, h2.ns]; rfl) (h2.ns _)) fun σ H R ⟨F, io, e, st, s, k⟩ => ?_
  rw [its] at k
  refine ⟨F, io, e, st, s, k.of_bind.mono (fun r e' st' k v H' po => ?_) fun _ _ _ x => x⟩
  obtain ⟨F', io', y, s', q⟩ := po.frz
  refine ⟨F', io', e', st', s', k.of_bind.mono (fun r2 e2 st2 k v2 H2 po => ?_) fun _ _ _ x => XW.ext y x⟩
  obtain ⟨F2, io2, y2, s2, q2⟩ := po.frz
  obtain ⟨d, w⟩ := r
  obtain ⟨d2, w2⟩ := r2
  have fin : ∀ i j, d = .int i → d2 = .int j → Res (if small62 i && small62 j then Pv.R.ok (rangeL i j) e2 st2 else Pv.R.no) (fun items e' st' => ∀ (J : It) (H' : Hp), (∃ F' io', Ext F io H F' io' H' ∧ SR p.K p.z F' io' e' st' σ H' ∧ ItOK p.K J F' io' H' items) → R J H') (XW p F io H σ) →
      ∃ i j : Int, [v, v2] = [.int i, .int j] ∧ (-(2 ^ 62) ≤ i ∧ i < 2 ^ 62 ∧ -(2 ^ 62) ≤ j ∧ j < 2 ^ 62) ∧ R (Itr i (j - i).toNat) H2 := by
    intro i j e1 e2' kk
    subst e1
    subst e2'
    by_cases hs : (small62 i && small62 j) = true
    · rw [if_pos hs] at kk
      simp only [Bool.and_eq_true] at hs
      cases q; cases q2
      exact ⟨i, j, rfl, ⟨(small_of hs.1).1, (small_of hs.1).2, (small_of hs.2).1, (small_of hs.2).2⟩, kk _ _ ⟨F2, io2, y.trans y2, s2, it_rng⟩⟩
    · rw [if_neg hs] at kk
      exact kk.elim
  cases d with
  | int i => cases d2 with
    | int j => exact fin i j rfl rfl k
    | _ => exact k.elim
  | _ => cases d2 <;> exact k.elim
theorem i_rv1 {p1 p2 p3 : Pos} (S : Sok p X) (hv : Gl X "reversed") (hg : Gl X "range") (h : EOK X p a c) : PI X tg (.Call (.Name "reversed" p1) [.Call (.Name "range" p2) [a] [] p3] [] pos) (tit p (.rv1 c)) := by
  refine PI.imp (pi_revR hv (S.blt _ (by simp [bltAll])) (prg_1 hg (S.blt _ (by simp [bltAll])) h.pe (h.ns _)) (by rfl)) fun σ H R ⟨F, io, e, st, s, k⟩ => ?_
  rw [its] at k
  refine ⟨F, io, e, st, s, k.of_bind.mono (fun r e' st' k v H' po => ?_) fun _ _ _ x => x⟩
  obtain ⟨d, w⟩ := r
  obtain ⟨F', io', y, s', q⟩ := po.frz
  cases d <;> try exact k.elim
  rename_i j
  have k : Res (if small62 j then Pv.R.ok (rangeL 0 j).reverse e' st' else Pv.R.no) _ _ := k
  split at k
  · rename_i hs
    cases q
    exact ⟨j, rfl, by decide, by decide, (small_of hs).1, (small_of hs).2, k _ _ ⟨F', io', y, s', it_rvg⟩⟩
  · exact k.elim
theorem i_rv2 {p1 p2 p3 : Pos} {c2 : E} (S : Sok p X) (hv : Gl X "reversed") (hg : Gl X "range") (h : EOK X p a c) (h2 : EOK X p b c2) : PI X tg (.Call (.Name "reversed" p1) [.Call (.Name "range" p2) [a, b] [] p3] [] pos) (tit p (.rv2 c c2)) := by
  refine PI.imp (pi_revR hv (S.blt _ (by simp [bltAll])) (prg_2 hg (S.blt _ (by simp [bltAll])) h.pe h2.pe (by rw [h.ns]) (h2.ns _) (by rw [h2.ns]; rfl)) (by rfl)) fun σ H R ⟨F, io, e, st, s, k⟩ => ?_
  rw [its] at k
  refine ⟨F, io, e, st, s, k.of_bind.mono (fun r e' st' k v H' po => ?_) fun _ _ _ x => x⟩
  obtain ⟨F', io', y, s', q⟩ := po.frz
  refine ⟨F', io', e', st', s', k.of_bind.mono (fun r2 e2 st2 k v2 H2 po => ?_) fun _ _ _ x => XW.ext y x⟩
  obtain ⟨F2, io2, y2, s2, q2⟩ := po.frz
  obtain ⟨d, w⟩ := r
  obtain ⟨d2, w2⟩ := r2
  cases d with
  | int i => cases d2 with
    | int j =>
      have k : Res (if small62 i && small62 j then Pv.R.ok (rangeL i j).reverse e2 st2 else Pv.R.no) _ _ := k
      split at k
      · rename_i hs
        simp only [Bool.and_eq_true] at hs
        cases q; cases q2
        exact ⟨i, j, rfl, rfl, (small_of hs.1).1, (small_of hs.1).2, (small_of hs.2).1, (small_of hs.2).2, k _ _ ⟨F2, io2, y.trans y2, s2, it_rvg⟩⟩
      · exact k.elim
    | _ => exact k.elim
  | _ => cases d2 <;> exact k.elim
theorem i_rev {pp : Pos} (S : Sok p X) (hg : Gl X "reversed") (h : EOK X p a c) : PI X tg (.Call (.Name "reversed" pp) [a] [] pos) (tit p (.rev c)) := by
  refine PI.imp (RT.pi_revA hg (S.blt _ (by simp [bltAll])) h.pe (h.ns _)) fun σ H R ⟨F, io, e, st, s, k⟩ => ?_
  rw [its] at k
  refine ⟨F, io, e, st, s, k.of_bind.mono (fun r e' st' k v H' po => ?_) fun _ _ _ x => x⟩
  obtain ⟨d, w⟩ := r
  obtain ⟨F', io', y, s', q⟩ := po.frz
  cases d <;> try exact k.elim
  · cases q with
    | @tup a xs ds h1 h2 => exact ⟨a, xs, rfl, .inr ⟨S.K ▸ h1, by rw [S.K]; exact k _ _ ⟨F', io', y, s', it_revT h1 h2⟩⟩⟩
  · cases q with
    | @lst a xs ds h1 h2 => exact ⟨a, xs, rfl, .inl ⟨S.K ▸ h1.sq, by rw [S.K]; exact k _ _ ⟨F', io', y, s', it_rev h1 h2⟩⟩⟩
theorem it_zip {K : PySem.W.Frag} {a b : Addr} {xs ys : List V} {ds es : List D} (h : LsF K H F a xs) (r : RepL K H F io xs ds) (h2 : LsF K H F b ys) (r2 : RepL K H F io ys es) : ItOK K (Itz K a b) F io H (List.zipWith (fun x y => D.tup [x, y]) ds es) where
  go := fun i d F1 io1 H1 y dom hd => by
    have h1 : SqL K H1 a xs := (h.ext y).sq
    have h3 : SqL K H1 b ys := (h2.ext y).sq
    rw [List.getElem?_zipWith] at hd
    cases e1 : ds[i]? with
    | none => rw [e1] at hd; cases hd
    | some d1 =>
      cases e2 : es[i]? with
      | none => rw [e1, e2] at hd; cases hd
      | some d2 =>
        rw [e1, e2] at hd
        cases hd
        obtain ⟨v1, g1, q1⟩ := r.get e1
        obtain ⟨v2, g2, q2⟩ := r2.get e2
        refine ⟨⟨xs, ys, v1, v2, h1, h3, g1, g2⟩, fun x H2 q => ?_⟩
        obtain ⟨T, u1, u2, rfl, hT, rfl, k1, k2⟩ := q
        have k1 := k1 xs h1
        have k2 := k2 ys h3
        rw [g1] at k1; rw [g2] at k2
        cases k1; cases k2
        have yn := ext_new (io := io1) (o := .tup [v1, v2]) hT dom
        exact ⟨.inr ⟨T, _, hT, rfl⟩, .tup (.inl (.inl upd_same)) (.cons ((q1.ext y).ext yn) (.cons ((q2.ext y).ext yn) .nil))⟩
  stop := fun F1 io1 H1 y => by
    refine ⟨xs, ys, (h.ext y).sq, (h2.ext y).sq, ?_⟩
    rw [List.length_zipWith, r.length, r2.length]
    omega
theorem it_zipT {K : PySem.W.Frag} {a b : Addr} {xs ys : List V} {ds es : List D} (h : SqT K H a xs) (r : RepL K H F io xs ds) (h2 : SqT K H b ys) (r2 : RepL K H F io ys es) : ItOK K (RZ.ItzT K a b) F io H (List.zipWith (fun x y => D.tup [x, y]) ds es) where
  go := fun i d F1 io1 H1 y dom hd => by
    have h1 : SqT K H1 a xs := sqT_ext y h
    have h3 : SqT K H1 b ys := sqT_ext y h2
    rw [List.getElem?_zipWith] at hd
    cases e1 : ds[i]? with
    | none => rw [e1] at hd; cases hd
    | some d1 =>
      cases e2 : es[i]? with
      | none => rw [e1, e2] at hd; cases hd
      | some d2 =>
        rw [e1, e2] at hd
        cases hd
        obtain ⟨v1, g1, q1⟩ := r.get e1
        obtain ⟨v2, g2, q2⟩ := r2.get e2
        refine ⟨⟨xs, ys, v1, v2, h1, h3, g1, g2⟩, fun x H2 q => ?_⟩
        obtain ⟨T, u1, u2, rfl, hT, rfl, k1, k2⟩ := q
        have k1 := k1 xs h1
        have k2 := k2 ys h3
        rw [g1] at k1; rw [g2] at k2
        cases k1; cases k2
        have yn := ext_new (io := io1) (o := .tup [v1, v2]) hT dom
        exact ⟨.inr ⟨T, _, hT, rfl⟩, .tup (.inl (.inl upd_same)) (.cons ((q1.ext y).ext yn) (.cons ((q2.ext y).ext yn) .nil))⟩
  stop := fun F1 io1 H1 y => by
    refine ⟨xs, ys, sqT_ext y h, sqT_ext y h2, ?_⟩
    rw [List.length_zipWith, r.length, r2.length]
    omega
theorem i_zip {pp tp : Pos} {c2 : E} {elts : List Expr} {kk : Nat} (S : Sok p X) (hg : Gl X "zip") (h : EOK X p a c) (h2 : EOK X p b c2) : PI X (.Tuple elts kk tp) (.Call (.Name "zip" pp) [a, b] [] pos) (tit p (.zip c c2)) := by
  refine PI.imp (RZ.pi_zipA hg (S.blt _ (by simp [bltAll])) (pa_cons h.pe (pa_cons h2.pe pa_nil (h2.ns _)) (h.ns _)) (h.ns _) (by rw [h2.ns]; rfl)) fun σ H R ⟨F, io, e, st, s, k⟩ => ?_
  rw [its] at k
  refine ⟨F, io, e, st, s, k.of_bind.mono (fun r e' st' k v H' po => ?_) fun _ _ _ x => x⟩
  obtain ⟨F', io', y, s', q⟩ := po.frz
  refine ⟨F', io', e', st', s', k.of_bind.mono (fun r2 e2 st2 k v2 H2 po => ?_) fun _ _ _ x => XW.ext y x⟩
  obtain ⟨F2, io2, y2, s2, q2⟩ := po.frz
  obtain ⟨d, w⟩ := r
  obtain ⟨d2, w2⟩ := r2
  cases d with
  | lst xs => cases d2 with
    | lst ys =>
      have q := q.ext y2
      cases q with
      | lst l1 r1 => cases q2 with
        | lst l2 r2 => exact ⟨_, _, _, _, rfl, .inl ⟨S.K ▸ l1.sq, S.K ▸ l2.sq, by rw [S.K]; exact k _ _ ⟨F2, io2, y.trans y2, s2, it_zip l1 r1 l2 r2⟩⟩⟩
    | _ => exact k.elim
  | tup xs => cases d2 with
    | tup ys =>
      have q := q.ext y2
      cases q with
      | tup l1 r1 => cases q2 with
        | tup l2 r2 => exact ⟨_, _, _, _, rfl, .inr ⟨S.K ▸ l1, S.K ▸ l2, by rw [S.K]; exact k _ _ ⟨F2, io2, y.trans y2, s2, it_zipT l1 r1 l2 r2⟩⟩⟩
    | _ => exact k.elim
  | _ => cases d2 <;> exact k.elim
theorem numL_get : ∀ (xs : List D) (k : Int) (i : Nat), (numL k xs)[i]? = (xs[i]?).map fun x => D.tup [.int (k + (i : Nat)), x]
  | [], _, _ => by simp [numL]
  | x :: r, k, 0 => by simp [numL]
  | x :: r, k, i + 1 => by
    rw [numL, List.getElem?_cons_succ, numL_get r (k + 1) i, List.getElem?_cons_succ]
    have : k + 1 + (i : Int) = k + ((i + 1 : Nat) : Int) := by omega
    rw [this]
theorem numL_len : ∀ (xs : List D) (k : Int), (numL k xs).length = xs.length
  | [], _ => rfl
  | x :: r, k => by rw [numL, List.length_cons, List.length_cons, numL_len r (k + 1)]
theorem it_ens {K : PySem.W.Frag} {a : Addr} {xs : List V} {ds : List D} {k : Int} (h : SqT K H a xs) (r : RepL K H F io xs ds) : ItOK K (IteT K a k) F io H (numL k ds) where
  go := fun i d F1 io1 H1 y dom hd => by
    have h1 : SqT K H1 a xs := sqT_ext y h
    rw [numL_get] at hd
    cases e1 : ds[i]? with
    | none => rw [e1] at hd; cases hd
    | some d1 =>
      rw [e1] at hd
      cases hd
      obtain ⟨v1, g1, q1⟩ := r.get e1
      refine ⟨⟨xs, v1, h1, g1⟩, fun x H2 q => ?_⟩
      obtain ⟨T, u1, rfl, hT, rfl, k1⟩ := q
      have k1 := k1 xs h1
      rw [g1] at k1
      cases k1
      have yn := ext_new (io := io1) (o := .tup [.int (k + (i : Nat)), v1]) hT dom
      exact ⟨.inr ⟨T, _, hT, rfl⟩, .tup (.inl (.inl upd_same)) (.cons (.int _) (.cons ((q1.ext y).ext yn) .nil))⟩
  stop := fun F1 io1 H1 y => ⟨xs, sqT_ext y h, by rw [numL_len, r.length]⟩
theorem it_enu {K : PySem.W.Frag} {a : Addr} {xs : List V} {ds : List D} (h : LsF K H F a xs) (r : RepL K H F io xs ds) : ItOK K (Ite K a) F io H (numL 0 ds) where
  go := fun i d F1 io1 H1 y dom hd => by
    have h1 : SqL K H1 a xs := (h.ext y).sq
    rw [numL_get, Int.zero_add] at hd
    cases e1 : ds[i]? with
    | none => rw [e1] at hd; cases hd
    | some d1 =>
      rw [e1] at hd
      cases hd
      obtain ⟨v1, g1, q1⟩ := r.get e1
      refine ⟨⟨xs, v1, h1, g1⟩, fun x H2 q => ?_⟩
      obtain ⟨T, u1, rfl, hT, rfl, k1⟩ := q
      have k1 := k1 xs h1
      rw [g1] at k1
      cases k1
      have yn := ext_new (io := io1) (o := .tup [.int (i : Nat), v1]) hT dom
      exact ⟨.inr ⟨T, _, hT, rfl⟩, .tup (.inl (.inl upd_same)) (.cons (.int _) (.cons ((q1.ext y).ext yn) .nil))⟩
  stop := fun F1 io1 H1 y => ⟨xs, (h.ext y).sq, by rw [numL_len, r.length]; exact Nat.le_refl _⟩
theorem i_ens {pp tp cp kp : Pos} {elts : List Expr} {kk j : Nat} {k0 : Int} (S : Sok p X) (hg : Gl X "enumerate") (h : EOK X p a c) : PI X (.Tuple elts kk tp) (.Call (.Name "enumerate" pp) [a] [⟨some "start", .Constant (.int k0) j cp, kp⟩] pos) (tit p (.ens c k0)) := by
  by_cases hs : small62 k0 = true
  · have hb := small_of hs
    refine PI.imp (pi_enumT (by omega) (by omega) hg (S.blt _ (by simp [bltAll])) h.pe (h.ns _)) fun σ H R ⟨F, io, e, st, s, k⟩ => ?_
    rw [its, if_pos hs] at k
    refine ⟨F, io, e, st, s, k.of_bind.mono (fun r e' st' k v H' po => ?_) fun _ _ _ x => x⟩
    obtain ⟨F', io', y, s', q⟩ := po.frz
    obtain ⟨d, w⟩ := r
    cases d <;> try exact k.elim
    cases q with
    | tup l1 r1 => exact ⟨_, _, rfl, S.K ▸ l1, by rw [S.K]; exact k _ _ ⟨F', io', y, s', it_ens l1 r1⟩⟩
  · refine ⟨fun pins s σ H R I ⟨F, io, e, st, _, k⟩ => ?_⟩
    rw [its, if_neg hs] at k
    exact k.elim
theorem i_enu {pp tp : Pos} {elts : List Expr} {kk : Nat} (S : Sok p X) (hg : Gl X "enumerate") (h : EOK X p a c) : PI X (.Tuple elts kk tp) (.Call (.Name "enumerate" pp) [a] [] pos) (tit p (.enu c)) := by
  refine PI.imp (pi_enumB hg (S.blt _ (by simp [bltAll])) (pa_cons h.pe pa_nil (h.ns _)) (h.ns _)) fun σ H R ⟨F, io, e, st, s, k⟩ => ?_
  rw [its] at k
  refine ⟨F, io, e, st, s, k.of_bind.mono (fun r e' st' k v H' po => ?_) fun _ _ _ x => x⟩
  obtain ⟨F', io', y, s', q⟩ := po.frz
  obtain ⟨d, w⟩ := r
  cases d <;> try exact k.elim
  · cases q with
    | tup l1 r1 => exact ⟨_, _, rfl, .inr ⟨S.K ▸ l1, by rw [S.K]; exact k _ _ ⟨F', io', y, s', it_ens l1 r1⟩⟩⟩
  · cases q with
    | @lst a xs ds l1 r1 => exact ⟨a, xs, rfl, .inl ⟨S.K ▸ l1.sq, by rw [S.K]; exact k _ _ ⟨F', io', y, s', it_enu l1 r1⟩⟩⟩
end
end Pv
namespace Pv
open PySem PySem.Spec PyProof.Rows L2
/-! ## comprehensions -/
theorem wipeL_get (σ : L2.St) (i : Nat) : ∀ vs : List Nat, (L2.wipe σ vs)[i]? = if i ∈ vs then (σ[i]?).map (fun _ => none) else σ[i]?
  | [] => by simp [L2.wipe]
  | v :: vs => by
    unfold L2.wipe
    have ih := wipeL_get σ i vs
    by_cases hv : v = i
    · subst hv
      by_cases hl : v < σ.length
      · rw [List.getElem?_set_self (by rw [wipe_length]; exact hl), if_pos (by simp), List.getElem?_eq_getElem hl]; rfl
      · rw [List.getElem?_eq_none (by simp [wipe_length]; omega), if_pos (by simp), List.getElem?_eq_none (by omega)]; rfl
    · rw [List.getElem?_set_ne hv, ih]
      by_cases hm : i ∈ vs
      · rw [if_pos hm, if_pos (by simp [hm])]
      · rw [if_neg hm, if_neg (by simp only [List.mem_cons, not_or]; exact ⟨fun q => hv q.symm, hm⟩)]
theorem wipeE_length (e : En) : ∀ vs : List Nat, (wipeE e vs).length = e.length
  | [] => rfl
  | v :: vs => by unfold wipeE; rw [List.length_set, wipeE_length e vs]
theorem wipeE_get (e : En) (i : Nat) : ∀ vs : List Nat, (wipeE e vs)[i]? = if i ∈ vs then (e[i]?).map (fun _ => Sl.un) else e[i]?
  | [] => by simp [wipeE]
  | v :: vs => by
    unfold wipeE
    have ih := wipeE_get e i vs
    by_cases hv : v = i
    · subst hv
      by_cases hl : v < e.length
      · rw [List.getElem?_set_self (by rw [wipeE_length]; exact hl), if_pos (by simp), List.getElem?_eq_getElem hl]; rfl
      · rw [List.getElem?_eq_none (by simp [wipeE_length]; omega), if_pos (by simp), List.getElem?_eq_none (by omega)]; rfl
    · rw [List.getElem?_set_ne hv, ih]
      by_cases hm : i ∈ vs
      · rw [if_pos hm, if_pos (by simp [hm])]
      · rw [if_neg hm, if_neg (by simp only [List.mem_cons, not_or]; exact ⟨fun q => hv q.symm, hm⟩)]
theorem wipe_wipe (σ : L2.St) (vs : List Nat) : L2.wipe (L2.wipe σ vs) vs = L2.wipe σ vs := by
  refine List.ext_getElem? fun i => ?_
  rw [wipeL_get, wipeL_get]
  split
  · cases σ[i]? <;> rfl
  · rfl
theorem wipe_off {σ σ' : L2.St} {ts vs : List Nat} (h : Off ts σ σ') (hs : ∀ i ∈ ts, i ∈ vs) : L2.wipe σ' vs = L2.wipe σ vs := by
  refine List.ext_getElem? fun i => ?_
  rw [wipeL_get, wipeL_get]
  split
  · have h1 := h.1
    by_cases hl : i < σ.length
    · have hl' : i < σ'.length := by omega
      rw [List.getElem?_eq_getElem hl, List.getElem?_eq_getElem hl']; rfl
    · have hl' : ¬ i < σ'.length := by omega
      rw [List.getElem?_eq_none (Nat.le_of_not_lt hl), List.getElem?_eq_none (Nat.le_of_not_lt hl')]
  · rename_i hm
    exact h.2 i fun q => hm (hs i q)
theorem wipe_out' {σ σ' : L2.St} {vs : List Nat} (h : L2.wipe σ' vs = L2.wipe σ vs) : σ'.length = σ.length ∧ ∀ i, i ∉ vs → σ'[i]? = σ[i]? := by
  refine ⟨by rw [← wipe_length σ' vs, h, wipe_length], fun i hi => ?_⟩
  have := congrArg (fun l : L2.St => l[i]?) h
  simp only [wipeL_get, if_neg hi] at this
  exact this
section
variable {K : PySem.W.Frag} {z : Zo} {F F' : Zn} {io io' : List Addr} {H H' : Hp} {e e' : En} {st st' : Sto} {σ σ' : L2.St} {v : V} {d : D} {a : Addr} {o : HO}
/-- less is known of the slots -/
theorem SR.slots (s : SR K z F io e st σ H) (hl : e'.length = σ'.length) (h : ∀ (i : Nat) (sl : Sl), e'[i]? = some sl → sl = .un ∨ (e[i]? = some sl ∧ σ'[i]? = σ[i]?)) : SR K z F io e' st σ' H := by
  refine ⟨s.cel, hl, fun i d q => ?_, fun i d q => ?_, fun i j d d' a q1 q2 g1 g2 => ?_, s.frm, s.pre, s.fnw, fun i x q => by
    rcases h i _ q with h | ⟨h1, h2⟩
    · cases h
    · rw [h2]; exact s.xc i x h1⟩
  · rcases h i _ q with h | ⟨h1, h2⟩
    · cases h
    · rw [h2]; exact s.fr i d h1
  · rcases h i _ q with h | ⟨h1, h2⟩
    · cases h
    · rw [h2]; exact s.ow i d h1
  · rcases h i _ q1 with h1 | ⟨h1, h2⟩
    · cases h1
    · rcases h j _ q2 with h3 | ⟨h3, h4⟩
      · cases h3
      · rw [h2] at g1
        rw [h4] at g2
        exact s.sep i j d d' a h1 h3 g1 g2
theorem SR.unwipe {vs : List Nat} (s : SR K z F io e st σ H) (h : L2.wipe σ vs = L2.wipe σ' vs) : SR K z F io (wipeE e vs) st σ' H := by
  obtain ⟨h1, h2⟩ := wipe_out' h
  refine s.slots (by rw [wipeE_length, s.el, h1]) fun i sl q => ?_
  rw [wipeE_get] at q
  split at q
  · simp only [Option.map_eq_some_iff] at q
    obtain ⟨_, _, rfl⟩ := q
    exact .inl rfl
  · rename_i hm
    exact .inr ⟨q, (h2 i hm).symm⟩
theorem Fre.slots (f : Fre z F io e σ a) (h : ∀ (i : Nat) (sl : Sl), e'[i]? = some sl → sl = .un ∨ (e[i]? = some sl ∧ σ'[i]? = σ[i]?)) : Fre z F io e' σ' a :=
  ⟨f.f, f.i, f.z, fun i d' q1 q2 => by
    rcases h i _ q1 with h | ⟨h1, h2⟩
    · cases h
    · rw [h2] at q2
      exact f.o i d' h1 q2⟩
theorem Fre.unwipe {vs : List Nat} (f : Fre z F io e σ a) (h : L2.wipe σ vs = L2.wipe σ' vs) : Fre z F io (wipeE e vs) σ' a := by
  obtain ⟨h1, h2⟩ := wipe_out' h
  refine f.slots fun i sl q => ?_
  rw [wipeE_get] at q
  split at q
  · simp only [Option.map_eq_some_iff] at q
    obtain ⟨_, _, rfl⟩ := q
    exact .inl rfl
  · rename_i hm
    exact .inr ⟨q, (h2 i hm).symm⟩
/-- slots that hold nothing -/
def Wpd (vs : List Nat) (e : En) : Prop := ∀ i ∈ vs, e[i]? = none ∨ e[i]? = some .un
theorem Wpd.wipe (e : En) (vs : List Nat) : Wpd vs (wipeE e vs) := fun i hi => by
  rw [wipeE_get, if_pos hi]
  cases e[i]? with
  | none => exact .inl rfl
  | some _ => exact .inr rfl
theorem SR.wpd {vs : List Nat} (s : SR K z F io e st σ H) (w : Wpd vs e) : SR K z F io e st (L2.wipe σ vs) H := by
  refine s.slots (by rw [wipe_length, s.el]) fun i sl q => ?_
  by_cases hm : i ∈ vs
  · rcases w i hm with h | h
    · rw [h] at q; cases q
    · rw [h] at q; cases q; exact .inl rfl
  · exact .inr ⟨q, by rw [wipeL_get, if_neg hm]⟩
theorem Fre.wpd {vs : List Nat} (f : Fre z F io e σ a) (w : Wpd vs e) : Fre z F io e (L2.wipe σ vs) a := by
  refine f.slots fun i sl q => ?_
  by_cases hm : i ∈ vs
  · rcases w i hm with h | h
    · rw [h] at q; cases q
    · rw [h] at q; cases q; exact .inl rfl
  · exact .inr ⟨q, by rw [wipeL_get, if_neg hm]⟩
end
theorem Res.nox {α : Type} {r : R α} {P : α → En → Sto → Prop} {E : Xc → En → Sto → Prop} (h : Res (R.nox r) P E) : Res r P (fun _ _ _ => False) := by
  cases r <;> exact h
def gtvI (p : Px) (t : T) : TG := fun v σ H Q => ∃ z', gtv (p.iz z') t v σ H Q
theorem pg_gtvI {p : Px} {X : Cx} {tg : Expr} {t : T} (h : ∀ z', PG X tg (gtv (p.iz z') t)) : PG X tg (gtvI p t) := ⟨fun pins s σ H v u Q I r ⟨z', q⟩ => (h z').run pins s σ H v u Q I r q⟩
def tptI (p : Px) (c : E) : TT := fun σ H Q => ∃ z', tpt (p.iz z') c σ H Q
theorem pt_tptI {p : Px} {X : Cx} {ex : Expr} {c : E} (h : ∀ z', PT X ex (tpt (p.iz z') c)) : PT X ex (tptI p c) := ⟨fun pins s σ H Q I ⟨z', q⟩ => (h z').run pins s σ H Q I q⟩
def ttsI (p : Px) : Es → TT
  | .nil => tYes
  | .cons c _ => tptI p c
/-- no condition, or one -/
def oneC : Es → Bool
  | .nil | .cons _ .nil => true
  | _ => false
/-- the parts of a comprehension that are reckoned in its block -/
structure BlkE (X : Cx) (p : Px) (scope : Scope) (ex : Expr) (c : E) : Prop where
  ok : ∀ (s : Shared) (H : Hp) (C : Addr) (cl : List (Str × Addr)) (fp : List Addr) (z' : Zo), EOK (X.blk s H scope (compEnvC scope cl C X.env) fp) (p.iz z') ex c
structure BlkG (X : Cx) (p : Px) (scope : Scope) (tg : Expr) (t : T) : Prop where
  ok : ∀ (s : Shared) (H : Hp) (C : Addr) (cl : List (Str × Addr)) (fp : List Addr) (z' : Zo), GOK (X.blk s H scope (compEnvC scope cl C X.env) fp) (p.iz z') tg t
inductive BlkC (X : Cx) (p : Px) (scope : Scope) : List Expr → Es → Prop
  | nil : BlkC X p scope [] .nil
  | one {ex : Expr} {c : E} : BlkE X p scope ex c → BlkC X p scope [ex] (.cons c .nil)
section
variable {p : Px} {X : Cx} {F F' : Zn} {io io' : List Addr} {H H' : Hp} {e : En} {st : Sto} {σ : L2.St} {pos : Pos}
theorem BlkC.pts {scope : Scope} {ifs : List Expr} {c : Es} (h : BlkC X p scope ifs c) (s : Shared) (H : Hp) (C : Addr) (cl : List (Str × Addr)) (fp : List Addr) : PTs (X.blk s H scope (compEnvC scope cl C X.env) fp) ifs (ttsI p c) := by
  cases h with
  | nil => exact pts_nil
  | one h => exact pts_one (pt_tptI fun z' => (h.ok s H C cl fp z').pt)
/-- the conditions, at a turn -/
theorem conds {c : Es} (hc : oneC c = true) {z' : Zo} {Q : Bool → Hp → Prop} {P : Bool → En → Sto → Prop} (s : SR p.K z' F io e st σ H) (k : bRes (evAnd p.B p.G c e st) P (fun _ _ _ => False))
    (hQ : ∀ b e' st', P b e' st' → ∀ F' io' H', Ext F io H F' io' H' → SR p.K z' F' io' e' st' σ H' → Q b H') : ttsI p c σ H Q := by
  cases c with
  | nil =>
    unfold bRes at k
    rw [evAnd] at k
    obtain ⟨w, hw, q⟩ := k
    cases hw
    exact hQ _ _ _ q F io H (.refl ..) s
  | cons c r =>
    cases r with
    | cons _ _ => cases hc
    | nil =>
      unfold bRes at k
      rw [evAnd] at k
      exact ⟨z', F, io, e, st, s, Res.mono k (fun r e' st' ⟨b, hb, q⟩ => ⟨b, hb, fun H' ⟨F', io', y, s'⟩ => hQ _ _ _ q F' io' H' y s'⟩) fun _ _ _ x => x.elim⟩
/-- a turn of a comprehension -/
def cmpF (B : Tab) (G : Glb) (elt : E) (t : T) (c : Es) (vs : List Nat) : Pv.D → En → Sto → R (Option Pv.D) := fun x e s => (asg B G t (x, false) e s).bind fun _ e s => (evAnd B G c e s).bind fun b e s => match b.1 with
  | .bool true => (ev B G elt e s).bind fun d e s => .ok (some d.1) (wipeE e vs) s
  | .bool false => .ok none (wipeE e vs) s
  | _ => .no
theorem cmpF_eq (B : Tab) (G : Glb) (elt : E) (t : T) (c : Es) (vs : List Nat) (x : Pv.D) (e : En) (s : Sto) : cmpF B G elt t c vs x e s = (asg B G t (x, false) e s).bind fun _ e s => (evAnd B G c e s).bind fun b e s => match b.1 with
  | .bool true => (ev B G elt e s).bind fun d e s => .ok (some d.1) (wipeE e vs) s
  | .bool false => .ok none (wipeE e vs) s
  | _ => .no := rfl
/-- what has been made, at a turn's beginning -/
def CoW (p : Px) (D : Addr) (σ : L2.St) (vs : List Nat) (F1 : Zn) (io1 : List Addr) (H1 : Hp) (f : Pv.D → En → Sto → R (Option Pv.D)) (items : List Pv.D) (P : List Pv.D → En → Sto → Prop) (i : Nat) (H2 : Hp) : Prop :=
  ∃ F2 io2 e2 st2 acc ws, Ext F1 io1 H1 F2 io2 H2 ∧ SR p.K p.z F2 io2 e2 st2 σ H2 ∧ Wpd vs e2 ∧ Fre p.z F2 io2 e2 σ D ∧ H2 D = some (.lst ws) ∧ RepL p.K H2 F2 io2 ws acc ∧ Res (compL f (items.drop i) acc e2 st2) P (fun _ _ _ => False)
/-- a walk's step leaves what stands -/
theorem yld_keep {D : Addr} {o : HO} {H3 : Hp} (s : SR p.K p.z F io e st σ H) (f : Fre p.z F io e σ D) (hD : H D = some o) (h : H3 = H ∨ ∃ T xs, H T = none ∧ H3 = upd H T (.tup xs)) :
    SR p.K p.z F io e st σ H3 ∧ Ext F io H F io H3 ∧ H3 D = some o := by
  rcases h with rfl | ⟨T, xs, hT, rfl⟩
  · exact ⟨s, .refl .., hD⟩
  · exact ⟨s.newObj hT, ext_new hT s.cel.dom, by rw [upd_ne (fun q => by rw [q, hT] at hD; cases hD)]; exact hD⟩
theorem comp_go {ll : Bool} {elt : E} {t : T} {it : I} {c : Es} {own : List (Str × Nat)} {Q : VK} (hc : oneC c = true) (ht : ∀ i ∈ tgs t, i ∈ own.map (·.2)) (h : tev p (.comp ll elt t it c own) σ H Q) :
    tLc (tit p it) (gtvI p t) (ttsI p c) (tevI p elt) (own.map (·.2)) σ H Q := by
  obtain ⟨F, io, e, st, s, k⟩ := h
  rw [ev] at k
  generalize hvs : own.map (·.2) = vs at *
  refine ⟨F, io, e, st, s, k.of_bind.mono (fun items e1 st1 k J H1 ⟨F1, io1, y1, s1, J1⟩ D hD => ?_) fun _ _ _ x => x⟩
  obtain ⟨P0, hP0, k⟩ : ∃ P0, (∀ ds e s, P0 ds e s → Res (stow ll (.lst ds) e s) (fun r e' st' => ∀ v H', PoE p.K p.z F io H e' st' σ r v H' → Q v H') (XW p F io H σ)) ∧ Res (compL (cmpF p.B p.G elt t c vs) items [] (wipeE e1 vs) st1) P0 (fun _ _ _ => False) := ⟨_, fun _ _ _ q => q, (Res.of_bind k).nox⟩
  have hi : D ∉ p.z.i0 := fun q => (s1.fre hD).i (by obtain ⟨l, e1, _⟩ := s1.pre; rw [e1]; exact List.mem_append_left _ q)
  refine ⟨fun i m H2 => m = items.length - i ∧ i ≤ items.length ∧ CoW p D σ vs F1 io1 H1 (cmpF p.B p.G elt t c vs) items P0 i H2, ⟨_, rfl, Nat.zero_le _, F1, io1, wipeE e1 vs, st1, [], [], ext_new hD s1.cel.dom, (s1.newObj hD).unwipe rfl, Wpd.wipe _ _, (s1.fre hD).unwipe rfl, upd_same, .nil, k⟩, ?_⟩
  rintro i m H2 ⟨hm, hi2, F2, io2, e2, st2, acc, ws, y, s2, w2, f2, hD2, r2, k⟩
  by_cases hlt : i < items.length
  · have hd : items[i]? = some items[i] := List.getElem?_eq_getElem hlt
    obtain ⟨g, yl⟩ := J1.go i items[i] F2 io2 H2 y s2.cel.dom hd
    refine .inr ⟨g, fun H' => CoW p D σ vs F1 io1 H1 (cmpF p.B p.G elt t c vs) items P0 (i + 1) H', fun H' w => ⟨items.length - (i + 1), by omega, rfl, hlt, w⟩, fun x H3 hy => ?_⟩
    rw [List.drop_eq_getElem_cons hlt, compL] at k
    obtain ⟨hH, hx⟩ := yl x H3 hy
    obtain ⟨s3, y3, hD3⟩ := yld_keep s2 f2 hD2 hH
    have s3' := (s3.wpd w2).addz (f2.wpd w2) hD3
    have k := Res.of_bind k
    rw [cmpF_eq] at k
    refine ⟨zadd p.z D (.lst ws), F2, io2, e2, st2, (items[i], false), s3', hx, (Res.of_bind k).mono (fun _ e4 st4 k σ4 H4 of4 ⟨F4, io4, y4, s4⟩ => ?_) fun _ _ _ x => x.elim⟩
    have hw4 : L2.wipe σ4 vs = L2.wipe σ vs := (wipe_off of4 ht).trans (wipe_wipe ..)
    refine ⟨hw4, ?_⟩
    -- the conditions
    refine conds hc s4 (P := fun b e' st' => Res (if b = true then (ev p.B p.G elt e' st').bind fun d e s => R.ok (some d.1) (wipeE e vs) s else R.ok none (wipeE e' vs) st') (fun o e s => Res (match o with
      | some d => if acc.length < sizeMax then compL (cmpF p.B p.G elt t c vs) (items.drop (i + 1)) (acc ++ [d]) e s else .no
      | none => compL (cmpF p.B p.G elt t c vs) (items.drop (i + 1)) acc e s) P0 (fun _ _ _ => False)) (fun _ _ _ => False)) ?_ fun b e5 st5 k F5 io5 H5 y5 s5 => ?_
    · unfold bRes
      refine (Res.of_bind k).mono (fun b e' st' k => ?_) fun _ _ _ x => x.elim
      split at k
      · rename_i hb; exact ⟨true, hb, by show Res (if true = true then _ else _) _ _; rw [if_pos rfl]; exact k⟩
      · rename_i hb; exact ⟨false, hb, by show Res (if false = true then _ else _) _ _; rw [if_neg (by decide)]; exact k⟩
      · exact k.elim
    · obtain ⟨sz5, hD5, f5⟩ := SR.prot s5 f2.z hi (fun _ q => by cases q)
      have k : Res (if b = true then _ else _) _ _ := k
      cases b with
      | false =>
        rw [if_neg (by decide)] at k ⊢
        exact ⟨F5, io5, wipeE e5 vs, st5, acc, ws, ((y.trans y3).trans y4).trans y5, sz5.unwipe hw4, Wpd.wipe _ _, f5.unwipe hw4, hD5, (r2.ext y3).ext (y4.trans y5), k⟩
      | true =>
        rw [if_pos rfl] at k ⊢
        refine ⟨zadd p.z D (.lst ws), F5, io5, e5, st5, s5, (Res.of_bind k).mono (fun r e6 st6 k v H6 po => ?_) fun _ _ _ x => x.elim⟩
        obtain ⟨F6, io6, y6, s6, hv⟩ := po.frz
        obtain ⟨sz6, hD6, f6⟩ := SR.prot s6 f2.z hi (fun _ q => by cases q)
        have k : Res (if acc.length < sizeMax then compL (cmpF p.B p.G elt t c vs) (items.drop (i + 1)) (acc ++ [r.1]) (wipeE e6 vs) st6 else .no) _ _ := k
        split at k
        · rename_i hl
          have r6 := ((r2.ext y3).ext (y4.trans y5)).ext y6
          obtain ⟨y7, s7⟩ := sz6.updFre (u := .lst (ws ++ [v])) f6 hD6 trivial
          exact ⟨ws, hD6, by rw [r2.length, ← sizeMax_eq]; exact hl, F6, io6, wipeE e6 vs, st6, acc ++ [r.1], ws ++ [v], (((y.trans y3).trans y4).trans y5).trans (y6.trans y7), s7.unwipe hw4, Wpd.wipe _ _, f6.unwipe hw4, upd_same, (r6.snoc hv).ext y7, k⟩
        · exact k.elim
  · have e1 : i = items.length := by omega
    subst e1
    rw [List.drop_length, compL] at k
    refine .inl ⟨J1.stop F2 io2 H2 y, ?_⟩
    obtain ⟨r', e5, st5, k, po⟩ := stow_po (hP0 _ _ _ k) (show PoE p.K p.z F io H _ _ σ (.lst acc, true) (.ref D) _ from ⟨F2, io2, y1.trans y, s2, f2.own hD2 (.lst r2)⟩)
    exact k _ _ po
/-- the own list is back in its slot -/
theorem SR.reown {K : PySem.W.Frag} {z : Zo} {a : Addr} {ws : List V} {xs : List Pv.D} {i : Nat} (s : SR K z F io e st σ H) (f : Fre z F io e σ a) (ha : H a = some (.lst ws)) (r : RepL K H F io ws xs) (g : σ[i]? = some (some (.ref a))) : SR K z F io (e.set i (.ow (.lst xs))) st σ H := by
  have at_ : ∀ (j : Nat) (sl : Sl), (e.set i (.ow (.lst xs)))[j]? = some sl → (j = i ∧ sl = .ow (.lst xs)) ∨ (j ≠ i ∧ e[j]? = some sl) := fun j sl q => by
    by_cases h : j = i
    · subst h
      by_cases hl : j < e.length
      · rw [List.getElem?_set_self hl] at q; cases q; exact .inl ⟨rfl, rfl⟩
      · rw [List.getElem?_eq_none (by rw [List.length_set]; omega)] at q; cases q
    · rw [List.getElem?_set_ne (Ne.symm h)] at q; exact .inr ⟨h, q⟩
  refine ⟨s.cel, by rw [List.length_set]; exact s.el, fun j d q => ?_, fun j d q => ?_, fun j k d d' b q1 q2 g1 g2 => ?_, s.frm, s.pre, s.fnw, fun j x q => ?_⟩
  · rcases at_ j _ q with ⟨_, h⟩ | ⟨_, h⟩
    · cases h
    · exact s.fr j d h
  · rcases at_ j _ q with ⟨rfl, h⟩ | ⟨_, h⟩
    · cases h
      exact ⟨a, g, ⟨_, ha, .lst r⟩, f.f, f.i, f.z⟩
    · exact s.ow j d h
  · rcases at_ j _ q1 with ⟨h1, h⟩ | ⟨h1, h⟩
    · rcases at_ k _ q2 with ⟨h2, h'⟩ | ⟨h2, h'⟩
      · rw [h1, h2]
      · rw [h1, g] at g1
        cases g1
        exact (f.o k d' h' g2).elim
    · rcases at_ k _ q2 with ⟨h2, h'⟩ | ⟨h2, h'⟩
      · rw [h2, g] at g2
        cases g2
        exact (f.o j d h g1).elim
      · exact s.sep j k d d' b h h' g1 g2
  · rcases at_ j _ q with ⟨_, h⟩ | ⟨_, h⟩
    · cases h
    · exact s.xc j x h
theorem cmo_go {ll : Bool} {elt : E} {t : T} {j : Nat} {c : Es} {own : List (Str × Nat)} {Q : VK} (hc : oneC c = true) (ht : ∀ i ∈ tgs t, i ∈ own.map (·.2)) (h : tev p (.cmo ll elt t j c own) σ H Q) :
    tLc (iList p.K (tVar j)) (gtvI p t) (ttsI p c) (tevI p elt) (own.map (·.2)) σ H Q := by
  obtain ⟨F, io, e, st, s, k⟩ := h
  rw [ev] at k
  generalize hvs : own.map (·.2) = vs at *
  split at k <;> try exact k.elim
  rename_i items hsl
  obtain ⟨a, g1, ⟨u, hu, hr⟩, g3, g4, g5⟩ := s.ow j _ hsl
  cases hr with
  | @lst ws0 _ r0 =>
  have hi0 : a ∉ p.z.i0 := fun q => g4 (by obtain ⟨l, e1, _⟩ := s.pre; rw [e1]; exact List.mem_append_left _ q)
  have at0 : ∀ (i : Nat) (sl : Sl), (e.set j .un)[i]? = some sl → (i = j ∧ sl = .un) ∨ (i ≠ j ∧ e[i]? = some sl) := fun i sl q => by
    by_cases h : i = j
    · subst h
      have hl : i < e.length := (List.getElem?_eq_some_iff.mp hsl).1
      rw [List.getElem?_set_self hl] at q; cases q; exact .inl ⟨rfl, rfl⟩
    · rw [List.getElem?_set_ne (Ne.symm h)] at q; exact .inr ⟨h, q⟩
  have s0 : SR p.K p.z F io (e.set j .un) st σ H := s.slots (by rw [List.length_set]; exact s.el) fun i sl q => by
    rcases at0 i sl q with ⟨_, h⟩ | ⟨_, h⟩
    · exact .inl h
    · exact .inr ⟨h, rfl⟩
  have f0 : Fre p.z F io (e.set j .un) σ a := ⟨g3, g4, g5, fun i d' q1 q2 => by
    rcases at0 i _ q1 with ⟨_, h⟩ | ⟨hne, h⟩
    · cases h
    · exact hne (s.sep i j d' _ a h hsl q2 g1)⟩
  have s1 := s0.addz f0 hu
  refine ⟨_, g1, a, rfl, ⟨ws0, .of hu⟩, fun D hD => ?_⟩
  obtain ⟨P0, hP0, k⟩ : ∃ P0, (∀ ds e s, P0 ds e s → Res (stow ll (.lst ds) (e.set j (.ow (.lst items))) s) (fun r e' st' => ∀ v H', PoE p.K p.z F io H e' st' σ r v H' → Q v H') (XW p F io H σ)) ∧ Res (compL (cmpF p.B p.G elt t c vs) items [] (wipeE (e.set j .un) vs) st) P0 (fun _ _ _ => False) := ⟨_, fun _ _ _ q => q, (Res.of_bind k).nox⟩
  generalize hz1 : zadd p.z a (.lst ws0) = z1 at s1
  have hi : D ∉ z1.i0 := fun q => (s1.fre hD).i (by obtain ⟨l, e1, _⟩ := s1.pre; rw [e1]; exact List.mem_append_left _ q)
  have hia : a ∉ z1.i0 := by rw [← hz1]; exact hi0
  have hza : z1.H0 a = some (.lst ws0) := by rw [← hz1]; exact upd_same
  refine ⟨fun i m H2 => m = items.length - i ∧ i ≤ items.length ∧ CoW (p.at z1) D σ vs F io H (cmpF p.B p.G elt t c vs) items P0 i H2, ⟨_, rfl, Nat.zero_le _, F, io, wipeE (e.set j .un) vs, st, [], [], ext_new hD s1.cel.dom, (s1.newObj hD).unwipe rfl, Wpd.wipe _ _, (s1.fre hD).unwipe rfl, upd_same, .nil, k⟩, ?_⟩
  rintro i m H2 ⟨hm, hi2, F2, io2, e2, st2, acc, ws, y, s2, w2, f2, hD2, r2, k⟩
  have s2 : SR p.K z1 F2 io2 e2 st2 σ H2 := s2
  have f2 : Fre z1 F2 io2 e2 σ D := f2
  have ha2 : SqL p.K H2 a ws0 := .of (s2.frm a _ hza hia)
  by_cases hlt : i < items.length
  · have hd : items[i]? = some items[i] := List.getElem?_eq_getElem hlt
    obtain ⟨v0, b1, b2⟩ := r0.get hd
    refine .inr ⟨⟨ws0, v0, ha2, b1⟩, fun H' => CoW (p.at z1) D σ vs F io H (cmpF p.B p.G elt t c vs) items P0 (i + 1) H', fun H' w => ⟨items.length - (i + 1), by omega, rfl, hlt, w⟩, fun x H3 hy => ?_⟩
    obtain ⟨rfl, hy⟩ := hy
    have hy := hy ws0 ha2
    rw [b1] at hy
    cases hy
    have hx : Rep p.K H3 F2 io2 v0 items[i] := b2.ext y
    rw [List.drop_eq_getElem_cons hlt, compL] at k
    have s3' := (s2.wpd w2).addz (f2.wpd w2) hD2
    have k := Res.of_bind k
    rw [cmpF_eq] at k
    refine ⟨zadd z1 D (.lst ws), F2, io2, e2, st2, (items[i], false), s3', hx, (Res.of_bind k).mono (fun _ e4 st4 k σ4 H4 of4 ⟨F4, io4, y4, s4⟩ => ?_) fun _ _ _ x => x.elim⟩
    have hw4 : L2.wipe σ4 vs = L2.wipe σ vs := (wipe_off of4 ht).trans (wipe_wipe ..)
    refine ⟨hw4, ?_⟩
    refine conds hc s4 (P := fun b e' st' => Res (if b = true then (ev p.B p.G elt e' st').bind fun d e s => R.ok (some d.1) (wipeE e vs) s else R.ok none (wipeE e' vs) st') (fun o e s => Res (match o with
      | some d => if acc.length < sizeMax then compL (cmpF p.B p.G elt t c vs) (items.drop (i + 1)) (acc ++ [d]) e s else .no
      | none => compL (cmpF p.B p.G elt t c vs) (items.drop (i + 1)) acc e s) P0 (fun _ _ _ => False)) (fun _ _ _ => False)) ?_ fun b e5 st5 k F5 io5 H5 y5 s5 => ?_
    · unfold bRes
      refine (Res.of_bind k).mono (fun b e' st' k => ?_) fun _ _ _ x => x.elim
      split at k
      · rename_i hb; exact ⟨true, hb, by show Res (if true = true then _ else _) _ _; rw [if_pos rfl]; exact k⟩
      · rename_i hb; exact ⟨false, hb, by show Res (if false = true then _ else _) _ _; rw [if_neg (by decide)]; exact k⟩
      · exact k.elim
    · obtain ⟨sz5, hD5, f5⟩ := SR.prot s5 f2.z hi (fun _ q => by cases q)
      have k : Res (if b = true then _ else _) _ _ := k
      cases b with
      | false =>
        rw [if_neg (by decide)] at k ⊢
        exact ⟨F5, io5, wipeE e5 vs, st5, acc, ws, (y.trans y4).trans y5, sz5.unwipe hw4, Wpd.wipe _ _, f5.unwipe hw4, hD5, r2.ext (y4.trans y5), k⟩
      | true =>
        rw [if_pos rfl] at k ⊢
        refine ⟨zadd z1 D (.lst ws), F5, io5, e5, st5, s5, (Res.of_bind k).mono (fun r e6 st6 k v H6 po => ?_) fun _ _ _ x => x.elim⟩
        obtain ⟨F6, io6, y6, s6, hv⟩ := po.frz
        obtain ⟨sz6, hD6, f6⟩ := SR.prot s6 f2.z hi (fun _ q => by cases q)
        have k : Res (if acc.length < sizeMax then compL (cmpF p.B p.G elt t c vs) (items.drop (i + 1)) (acc ++ [r.1]) (wipeE e6 vs) st6 else .no) _ _ := k
        split at k
        · rename_i hl
          have r6 := (r2.ext (y4.trans y5)).ext y6
          obtain ⟨y7, s7⟩ := sz6.updFre (u := .lst (ws ++ [v])) f6 hD6 trivial
          exact ⟨ws, hD6, by rw [r2.length, ← sizeMax_eq]; exact hl, F6, io6, wipeE e6 vs, st6, acc ++ [r.1], ws ++ [v], ((y.trans y4).trans y5).trans (y6.trans y7), s7.unwipe hw4, Wpd.wipe _ _, f6.unwipe hw4, upd_same, (r6.snoc hv).ext y7, k⟩
        · exact k.elim
  · have e1 : i = items.length := by omega
    subst e1
    rw [List.drop_length, compL] at k
    refine .inl ⟨⟨ws0, ha2, by rw [r0.length]; exact Nat.le_refl _⟩, ?_⟩
    subst hz1
    obtain ⟨sp, hap, fa⟩ := SR.prot s2 g5 hi0 (fun _ q => by cases q)
    have hne : D ≠ a := fun q => by have w := f2.z; rw [q, hza] at w; cases w
    have hzD : p.z.H0 D = none := by have w := f2.z; rw [show (zadd p.z a (.lst ws0)).H0 D = p.z.H0 D from upd_ne hne] at w; exact w
    have s3 := sp.reown fa hap (r0.ext y) g1
    have fD : Fre p.z F2 io2 (e2.set j (.ow (.lst items))) σ D := ⟨f2.f, f2.i, hzD, fun i d' q1 q2 => by
      by_cases h : i = j
      · subst h
        rw [g1] at q2
        cases q2
        exact hne rfl
      · rw [List.getElem?_set_ne (Ne.symm h)] at q1
        exact f2.o i d' q1 q2⟩
    obtain ⟨r', e5, st5, k, po⟩ := stow_po (hP0 _ _ _ k) (show PoE p.K p.z F io H _ _ σ (.lst acc, true) (.ref D) _ from ⟨F2, io2, y, s3, fD.own hD2 (.lst r2)⟩)
    exact k _ _ po
theorem e_cmo {ll : Bool} {ce : E} {t : T} {j : Nat} {c : Es} {own : List (Str × Nat)} {elt tg iter : Expr} {ifs : List Expr} {scope : Scope} (S : Sok p X) (hq : p.hot = false) (hi : PI X tg iter (iList X.K (tVar j))) (hs : ∀ x, foldedSetIterable iter X.env x = pure x) (ok : BlkOk X.N X.env.scope scope own)
    (ht : ∀ i ∈ tgs t, i ∈ own.map (·.2)) (hg : BlkG X p scope tg t) (he : BlkE X p scope elt ce) (hc : BlkC X p scope ifs c) : PE X (.ListComp elt [⟨tg, iter, ifs, 0⟩] scope pos) (tev p (.cmo ll ce t j c own)) :=
  PE.imp (pe_lc (S.calm hq) S.nd hi ok (fun s H C cl fp => pg_gtvI fun z' => (hg.ok s H C cl fp z').pg) (hc.pts) (fun s H C cl fp => pe_tevI fun z' => (he.ok s H C cl fp z').pe) hs) fun σ H Q q => S.K ▸ cmo_go (by cases hc <;> rfl) ht q
def cmsF (B : Tab) (G : Glb) (elt : E) (t : T) (c : Es) (vs : List Nat) (n : Nat) (xs : List Pv.D) : Pv.D → En → Sto → R (Option Pv.D) := fun x e s => if isL s n xs then cmpF B G elt t c vs x e s else .no
/-- [.. for t in o], o a list of the store -/
theorem cms_go {ll : Bool} {elt : E} {t : T} {o : E} {c : Es} {own : List (Str × Nat)} {Q : VK} (hc : oneC c = true) (ht : ∀ i ∈ tgs t, i ∈ own.map (·.2)) (h : tev p (.cms ll elt t o c own) σ H Q) :
    tLc (iList p.K (tev p o)) (gtvI p t) (ttsI p c) (tevI p elt) (own.map (·.2)) σ H Q := by
  obtain ⟨F, io, e, st, s, k⟩ := h
  rw [ev] at k
  generalize hvs : own.map (·.2) = vs at *
  refine ⟨F, io, e, st, s, k.of_bind.mono (fun r e1 st1 k v H1 po => ?_) fun _ _ _ x => x⟩
  obtain ⟨F1, io1, y1, s1, hv⟩ := po.frz
  split at k <;> try exact k.elim
  rename_i n hr
  split at k <;> try exact k.elim
  rename_i items hst
  rw [hr] at hv
  cases hv with
  | @loc a _ hio =>
  obtain ⟨u, hu, hr0⟩ := s1.cel.cell n a _ hio hst
  cases hr0 with
  | @lst ws0 _ r0 =>
  refine ⟨a, rfl, ⟨ws0, .of hu⟩, fun D hD => ?_⟩
  obtain ⟨P0, hP0, k⟩ : ∃ P0, (∀ ds e s, P0 ds e s → Res (if isL s n items then stow ll (.lst ds) e s else .no) (fun r e' st' => ∀ v H', PoE p.K p.z F io H e' st' σ r v H' → Q v H') (XW p F io H σ)) ∧ Res (compL (cmsF p.B p.G elt t c vs n items) items [] (wipeE e1 vs) st1) P0 (fun _ _ _ => False) := ⟨_, fun _ _ _ q => q, (Res.of_bind k).nox⟩
  have hi : D ∉ p.z.i0 := fun q => (s1.fre hD).i (by obtain ⟨l, e1, _⟩ := s1.pre; rw [e1]; exact List.mem_append_left _ q)
  refine ⟨fun i m H2 => m = items.length - i ∧ i ≤ items.length ∧ CoW p D σ vs F1 io1 H1 (cmsF p.B p.G elt t c vs n items) items P0 i H2, ⟨_, rfl, Nat.zero_le _, F1, io1, wipeE e1 vs, st1, [], [], ext_new hD s1.cel.dom, (s1.newObj hD).unwipe rfl, Wpd.wipe _ _, (s1.fre hD).unwipe rfl, upd_same, .nil, k⟩, ?_⟩
  rintro i m H2 ⟨hm, hi2, F2, io2, e2, st2, acc, ws, y, s2, w2, f2, hD2, r2, k⟩
  have look : isL st2 n items = true → ∃ ws2, H2 a = some (.lst ws2) ∧ RepL p.K H2 F2 io2 ws2 items := fun q => by
    obtain ⟨u2, hu2, hr2⟩ := s2.cel.cell n a _ (y.get hio) (isL_eq q)
    cases hr2 with
    | @lst ws2 _ rr => exact ⟨ws2, hu2, rr⟩
  by_cases hlt : i < items.length
  · have hd : items[i]? = some items[i] := List.getElem?_eq_getElem hlt
    rw [List.drop_eq_getElem_cons hlt, compL] at k
    have k := Res.of_bind k
    have k : Res (if isL st2 n items then cmpF p.B p.G elt t c vs items[i] e2 st2 else .no) _ _ := k
    split at k
    case isFalse => exact k.elim
    rename_i hsame
    obtain ⟨ws2, hu2, rr2⟩ := look hsame
    have ha2 : SqL p.K H2 a ws2 := .of hu2
    obtain ⟨v0, b1, b2⟩ := rr2.get hd
    refine .inr ⟨⟨ws2, v0, ha2, b1⟩, fun H' => CoW p D σ vs F1 io1 H1 (cmsF p.B p.G elt t c vs n items) items P0 (i + 1) H', fun H' w => ⟨items.length - (i + 1), by omega, rfl, hlt, w⟩, fun x H3 hy => ?_⟩
    obtain ⟨rfl, hy⟩ := hy
    have hy := hy ws2 ha2
    rw [b1] at hy
    cases hy
    have s3' := (s2.wpd w2).addz (f2.wpd w2) hD2
    rw [cmpF_eq] at k
    refine ⟨zadd p.z D (.lst ws), F2, io2, e2, st2, (items[i], false), s3', b2, (Res.of_bind k).mono (fun _ e4 st4 k σ4 H4 of4 ⟨F4, io4, y4, s4⟩ => ?_) fun _ _ _ x => x.elim⟩
    have hw4 : L2.wipe σ4 vs = L2.wipe σ vs := (wipe_off of4 ht).trans (wipe_wipe ..)
    refine ⟨hw4, ?_⟩
    refine conds hc s4 (P := fun b e' st' => Res (if b = true then (ev p.B p.G elt e' st').bind fun d e s => R.ok (some d.1) (wipeE e vs) s else R.ok none (wipeE e' vs) st') (fun o e s => Res (match o with
      | some d => if acc.length < sizeMax then compL (cmsF p.B p.G elt t c vs n items) (items.drop (i + 1)) (acc ++ [d]) e s else .no
      | none => compL (cmsF p.B p.G elt t c vs n items) (items.drop (i + 1)) acc e s) P0 (fun _ _ _ => False)) (fun _ _ _ => False)) ?_ fun b e5 st5 k F5 io5 H5 y5 s5 => ?_
    · unfold bRes
      refine (Res.of_bind k).mono (fun b e' st' k => ?_) fun _ _ _ x => x.elim
      split at k
      · rename_i hb; exact ⟨true, hb, by show Res (if true = true then _ else _) _ _; rw [if_pos rfl]; exact k⟩
      · rename_i hb; exact ⟨false, hb, by show Res (if false = true then _ else _) _ _; rw [if_neg (by decide)]; exact k⟩
      · exact k.elim
    · obtain ⟨sz5, hD5, f5⟩ := SR.prot s5 f2.z hi (fun _ q => by cases q)
      have k : Res (if b = true then _ else _) _ _ := k
      cases b with
      | false =>
        rw [if_neg (by decide)] at k ⊢
        exact ⟨F5, io5, wipeE e5 vs, st5, acc, ws, (y.trans y4).trans y5, sz5.unwipe hw4, Wpd.wipe _ _, f5.unwipe hw4, hD5, r2.ext (y4.trans y5), k⟩
      | true =>
        rw [if_pos rfl] at k ⊢
        refine ⟨zadd p.z D (.lst ws), F5, io5, e5, st5, s5, (Res.of_bind k).mono (fun r e6 st6 k v H6 po => ?_) fun _ _ _ x => x.elim⟩
        obtain ⟨F6, io6, y6, s6, hv⟩ := po.frz
        obtain ⟨sz6, hD6, f6⟩ := SR.prot s6 f2.z hi (fun _ q => by cases q)
        have k : Res (if acc.length < sizeMax then compL (cmsF p.B p.G elt t c vs n items) (items.drop (i + 1)) (acc ++ [r.1]) (wipeE e6 vs) st6 else .no) _ _ := k
        split at k
        · rename_i hl
          have r6 := (r2.ext (y4.trans y5)).ext y6
          obtain ⟨y7, s7⟩ := sz6.updFre (u := .lst (ws ++ [v])) f6 hD6 trivial
          exact ⟨ws, hD6, by rw [r2.length, ← sizeMax_eq]; exact hl, F6, io6, wipeE e6 vs, st6, acc ++ [r.1], ws ++ [v], ((y.trans y4).trans y5).trans (y6.trans y7), s7.unwipe hw4, Wpd.wipe _ _, f6.unwipe hw4, upd_same, (r6.snoc hv).ext y7, k⟩
        · exact k.elim
  · have e1 : i = items.length := by omega
    subst e1
    rw [List.drop_length, compL] at k
    have k := hP0 _ _ _ k
    split at k
    case isFalse => exact k.elim
    rename_i hsame
    obtain ⟨ws2, hu2, rr2⟩ := look hsame
    refine .inl ⟨⟨ws2, .of hu2, by rw [rr2.length]; exact Nat.le_refl _⟩, ?_⟩
    obtain ⟨r', e5, st5, k, po⟩ := stow_po k (show PoE p.K p.z F io H _ _ σ (.lst acc, true) (.ref D) _ from ⟨F2, io2, y1.trans y, s2, f2.own hD2 (.lst r2)⟩)
    exact k _ _ po
theorem e_cms {ll : Bool} {ce : E} {t : T} {o : E} {c : Es} {own : List (Str × Nat)} {elt tg iter : Expr} {ifs : List Expr} {scope : Scope} (S : Sok p X) (hq : p.hot = false) (hi : PI X tg iter (iList X.K (tev p o))) (hs : ∀ x, foldedSetIterable iter X.env x = pure x) (ok : BlkOk X.N X.env.scope scope own)
    (ht : ∀ i ∈ tgs t, i ∈ own.map (·.2)) (hg : BlkG X p scope tg t) (he : BlkE X p scope elt ce) (hc : BlkC X p scope ifs c) : PE X (.ListComp elt [⟨tg, iter, ifs, 0⟩] scope pos) (tev p (.cms ll ce t o c own)) :=
  PE.imp (pe_lc (S.calm hq) S.nd hi ok (fun s H C cl fp => pg_gtvI fun z' => (hg.ok s H C cl fp z').pg) (hc.pts) (fun s H C cl fp => pe_tevI fun z' => (he.ok s H C cl fp z').pe) hs) fun σ H Q q => S.K ▸ cms_go (by cases hc <;> rfl) ht q
theorem e_comp {ll : Bool} {ce : E} {t : T} {it : I} {c : Es} {own : List (Str × Nat)} {elt tg iter : Expr} {ifs : List Expr} {scope : Scope} (S : Sok p X) (hq : p.hot = false) (hi : PI X tg iter (tit p it)) (hs : ∀ x, foldedSetIterable iter X.env x = pure x) (ok : BlkOk X.N X.env.scope scope own)
    (ht : ∀ i ∈ tgs t, i ∈ own.map (·.2)) (hg : BlkG X p scope tg t) (he : BlkE X p scope elt ce) (hc : BlkC X p scope ifs c) : PE X (.ListComp elt [⟨tg, iter, ifs, 0⟩] scope pos) (tev p (.comp ll ce t it c own)) :=
  PE.imp (pe_lc (S.calm hq) S.nd hi ok (fun s H C cl fp => pg_gtvI fun z' => (hg.ok s H C cl fp z').pg) (hc.pts) (fun s H C cl fp => pe_tevI fun z' => (he.ok s H C cl fp z').pe) hs) fun σ H Q q => comp_go (by cases hc <;> rfl) ht q
/-- name = [..] -/
theorem s_setLc {ll : Bool} {ce : E} {t : T} {it : I} {c : Es} {own : List (Str × Nat)} {elt tg iter : Expr} {ifs : List Expr} {scope : Scope} {i : Nat} {y : Str} {py spos : Pos} (S : Sok p X) (hq : p.hot = false) (hy : X.N[i]? = some y) (hyl : X.env.scope.names.lookup y = some .local)
    (hl : (py.line == pos.line) = true) (ha : (scope.names.any fun (n, k) => n == y && (k == .local || k == .cell)) = false) (hi : PI X tg iter (tit p it)) (hs : ∀ x, foldedSetIterable iter X.env x = pure x) (ok : BlkOk X.N X.env.scope scope own)
    (ht : ∀ i ∈ tgs t, i ∈ own.map (·.2)) (hg : BlkG X p scope tg t) (he : BlkE X p scope elt ce) (hc : BlkC X p scope ifs c) : PS X (.Assign [.Name y py] (.ListComp elt [⟨tg, iter, ifs, 0⟩] scope pos) spos) (fun D σ H => tev p (.comp ll ce t it c own) σ H fun x H1 => gName i x σ H1 D.nx) :=
  ⟨fun pins s σ H D I q => (ps_setLc (S.calm hq) S.nd hy hyl (sw_true I.ok.kind hyl hl ha) hi ok (fun s H C cl fp => pg_gtvI fun z' => (hg.ok s H C cl fp z').pg) (hc.pts) (fun s H C cl fp => pe_tevI fun z' => (he.ok s H C cl fp z').pe) hs).run pins s σ H D I (comp_go (by cases hc <;> rfl) ht q)⟩
/-- .. over a list of the store -/
theorem s_setLs {ll : Bool} {ce : E} {t : T} {o : E} {c : Es} {own : List (Str × Nat)} {elt tg iter : Expr} {ifs : List Expr} {scope : Scope} {i : Nat} {y : Str} {py spos : Pos} (S : Sok p X) (hq : p.hot = false) (hy : X.N[i]? = some y) (hyl : X.env.scope.names.lookup y = some .local)
    (hl : (py.line == pos.line) = true) (ha : (scope.names.any fun (n, k) => n == y && (k == .local || k == .cell)) = false) (hi : PI X tg iter (iList X.K (tev p o))) (hs : ∀ x, foldedSetIterable iter X.env x = pure x) (ok : BlkOk X.N X.env.scope scope own)
    (ht : ∀ i ∈ tgs t, i ∈ own.map (·.2)) (hg : BlkG X p scope tg t) (he : BlkE X p scope elt ce) (hc : BlkC X p scope ifs c) : PS X (.Assign [.Name y py] (.ListComp elt [⟨tg, iter, ifs, 0⟩] scope pos) spos) (fun D σ H => tev p (.cms ll ce t o c own) σ H fun x H1 => gName i x σ H1 D.nx) :=
  ⟨fun pins s σ H D I q => (ps_setLc (S.calm hq) S.nd hy hyl (sw_true I.ok.kind hyl hl ha) hi ok (fun s H C cl fp => pg_gtvI fun z' => (hg.ok s H C cl fp z').pg) (hc.pts) (fun s H C cl fp => pe_tevI fun z' => (he.ok s H C cl fp z').pe) hs).run pins s σ H D I (S.K ▸ cms_go (by cases hc <;> rfl) ht q)⟩
/-! ### dict comprehensions -/
def dcmF (B : Tab) (G : Glb) (ck cv : E) (t : T) (c : Es) (vs : List Nat) : Pv.D → En → Sto → R (Option (Pv.D × Pv.D)) := fun x e s => (asg B G t (x, false) e s).bind fun _ e s => (evAnd B G c e s).bind fun b e s => match b.1 with
  | .bool true => (ev B G ck e s).bind fun d e s => (ev B G cv e s).bind fun d' e s => .ok (some (d.1, d'.1)) (wipeE e vs) s
  | .bool false => .ok none (wipeE e vs) s
  | _ => .no
theorem dcmF_eq (B : Tab) (G : Glb) (ck cv : E) (t : T) (c : Es) (vs : List Nat) (x : Pv.D) (e : En) (s : Sto) : dcmF B G ck cv t c vs x e s = (asg B G t (x, false) e s).bind fun _ e s => (evAnd B G c e s).bind fun b e s => match b.1 with
  | .bool true => (ev B G ck e s).bind fun d e s => (ev B G cv e s).bind fun d' e s => .ok (some (d.1, d'.1)) (wipeE e vs) s
  | .bool false => .ok none (wipeE e vs) s
  | _ => .no := rfl
def DoW (p : Px) (D : Addr) (σ : L2.St) (vs : List Nat) (F1 : Zn) (io1 : List Addr) (H1 : Hp) (f : Pv.D → En → Sto → R (Option (Pv.D × Pv.D))) (items : List Pv.D) (P : List (Pv.D × Pv.D) → En → Sto → Prop) (i : Nat) (H2 : Hp) : Prop :=
  ∃ F2 io2 e2 st2 acc ws, Ext F1 io1 H1 F2 io2 H2 ∧ SR p.K p.z F2 io2 e2 st2 σ H2 ∧ Wpd vs e2 ∧ Fre p.z F2 io2 e2 σ D ∧ H2 D = some (.dK ws) ∧ RepK p.K H2 F2 io2 ws acc ∧ Res (compD f (items.drop i) acc e2 st2) P (fun _ _ _ => False)
theorem dcm_go {ll : Bool} {ek ew : E} {t : T} {it : I} {c : Es} {own : List (Str × Nat)} {Q : VK} (hc : oneC c = true) (ht : ∀ i ∈ tgs t, i ∈ own.map (·.2)) (h : tev p (.dcm ll ek ew t it c own) σ H Q) :
    tDc (tit p it) (gtvI p t) (ttsI p c) (tevI p ek) (tevI p ew) (own.map (·.2)) σ H Q := by
  obtain ⟨F, io, e, st, s, k⟩ := h
  rw [ev] at k
  generalize hvs : own.map (·.2) = vs at *
  refine ⟨F, io, e, st, s, k.of_bind.mono (fun items e1 st1 k J H1 ⟨F1, io1, y1, s1, J1⟩ D hD => ?_) fun _ _ _ x => x⟩
  obtain ⟨P0, hP0, k⟩ : ∃ P0, (∀ ds e s, P0 ds e s → Res (stow ll (.dic ds) e s) (fun r e' st' => ∀ v H', PoE p.K p.z F io H e' st' σ r v H' → Q v H') (XW p F io H σ)) ∧ Res (compD (dcmF p.B p.G ek ew t c vs) items [] (wipeE e1 vs) st1) P0 (fun _ _ _ => False) := ⟨_, fun _ _ _ q => q, (Res.of_bind k).nox⟩
  have hi : D ∉ p.z.i0 := fun q => (s1.fre hD).i (by obtain ⟨l, e1, _⟩ := s1.pre; rw [e1]; exact List.mem_append_left _ q)
  refine ⟨fun i m H2 => m = items.length - i ∧ i ≤ items.length ∧ DoW p D σ vs F1 io1 H1 (dcmF p.B p.G ek ew t c vs) items P0 i H2, ⟨_, rfl, Nat.zero_le _, F1, io1, wipeE e1 vs, st1, [], [], ext_new hD s1.cel.dom, (s1.newObj hD).unwipe rfl, Wpd.wipe _ _, (s1.fre hD).unwipe rfl, upd_same, .nil, k⟩, ?_⟩
  rintro i m H2 ⟨hm, hi2, F2, io2, e2, st2, acc, ws, y, s2, w2, f2, hD2, r2, k⟩
  by_cases hlt : i < items.length
  · have hd : items[i]? = some items[i] := List.getElem?_eq_getElem hlt
    obtain ⟨g, yl⟩ := J1.go i items[i] F2 io2 H2 y s2.cel.dom hd
    refine .inr ⟨g, fun H' => DoW p D σ vs F1 io1 H1 (dcmF p.B p.G ek ew t c vs) items P0 (i + 1) H', fun H' w => ⟨items.length - (i + 1), by omega, rfl, hlt, w⟩, fun x H3 hy => ?_⟩
    rw [List.drop_eq_getElem_cons hlt, compD] at k
    obtain ⟨hH, hx⟩ := yl x H3 hy
    obtain ⟨s3, y3, hD3⟩ := yld_keep s2 f2 hD2 hH
    have s3' := (s3.wpd w2).addz (f2.wpd w2) hD3
    have k := Res.of_bind k
    rw [dcmF_eq] at k
    refine ⟨zadd p.z D (.dK ws), F2, io2, e2, st2, (items[i], false), s3', hx, (Res.of_bind k).mono (fun _ e4 st4 k σ4 H4 of4 ⟨F4, io4, y4, s4⟩ => ?_) fun _ _ _ x => x.elim⟩
    have hw4 : L2.wipe σ4 vs = L2.wipe σ vs := (wipe_off of4 ht).trans (wipe_wipe ..)
    refine ⟨hw4, ?_⟩
    refine conds hc s4 (P := fun b e' st' => Res (if b = true then (ev p.B p.G ek e' st').bind fun d e s => (ev p.B p.G ew e s).bind fun d' e s => R.ok (some (d.1, d'.1)) (wipeE e vs) s else R.ok none (wipeE e' vs) st') (fun o e s => Res (match o with
      | some d => if d.1.key = true ∧ acc.length < sizeMax then compD (dcmF p.B p.G ek ew t c vs) (items.drop (i + 1)) (putKD acc d.1 d.2) e s else .no
      | none => compD (dcmF p.B p.G ek ew t c vs) (items.drop (i + 1)) acc e s) P0 (fun _ _ _ => False)) (fun _ _ _ => False)) ?_ fun b e5 st5 k F5 io5 H5 y5 s5 => ?_
    · unfold bRes
      refine (Res.of_bind k).mono (fun b e' st' k => ?_) fun _ _ _ x => x.elim
      split at k
      · rename_i hb; exact ⟨true, hb, by show Res (if true = true then _ else _) _ _; rw [if_pos rfl]; exact k⟩
      · rename_i hb; exact ⟨false, hb, by show Res (if false = true then _ else _) _ _; rw [if_neg (by decide)]; exact k⟩
      · exact k.elim
    · obtain ⟨sz5, hD5, f5⟩ := SR.prot s5 f2.z hi (fun _ q => by cases q)
      have k : Res (if b = true then _ else _) _ _ := k
      cases b with
      | false =>
        rw [if_neg (by decide)] at k ⊢
        exact ⟨F5, io5, wipeE e5 vs, st5, acc, ws, ((y.trans y3).trans y4).trans y5, sz5.unwipe hw4, Wpd.wipe _ _, f5.unwipe hw4, hD5, (r2.ext y3).ext (y4.trans y5), k⟩
      | true =>
        rw [if_pos rfl] at k ⊢
        refine ⟨zadd p.z D (.dK ws), F5, io5, e5, st5, s5, (Res.of_bind k).mono (fun r e6 st6 k v H6 po => ?_) fun _ _ _ x => x.elim⟩
        obtain ⟨F6, io6, y6, s6, hv⟩ := po.frz
        refine ⟨zadd p.z D (.dK ws), F6, io6, e6, st6, s6, (Res.of_bind k).mono (fun r' e7 st7 k v' H7 po => ?_) fun _ _ _ x => x.elim⟩
        obtain ⟨F7, io7, y7, s7, hv7⟩ := po.frz
        obtain ⟨sz7, hD7, f7⟩ := SR.prot s7 f2.z hi (fun _ q => by cases q)
        have k : Res (if r.1.key = true ∧ acc.length < sizeMax then compD (dcmF p.B p.G ek ew t c vs) (items.drop (i + 1)) (putKD acc r.1 r'.1) (wipeE e7 vs) st7 else .no) _ _ := k
        split at k
        · rename_i hl
          have r7 := (((r2.ext y3).ext (y4.trans y5)).ext y6).ext y7
          obtain ⟨y8, s8⟩ := sz7.updFre (u := .dK (putK ws r.1.toKey v')) f7 hD7 trivial
          have rr := (r7.put (k := r.1.toKey) hv7).ext y8
          rw [← key_is hl.1] at rr
          exact ⟨ws, r.1.toKey, RO.key (.inl hv) hl.1, hD7, by rw [r2.length, ← sizeMax_eq]; exact hl.2, F7, io7, wipeE e7 vs, st7, _, _, (((y.trans y3).trans y4).trans y5).trans ((y6.trans y7).trans y8), s8.unwipe hw4, Wpd.wipe _ _, f7.unwipe hw4, upd_same, rr, k⟩
        · exact k.elim
  · have e1 : i = items.length := by omega
    subst e1
    rw [List.drop_length, compD] at k
    refine .inl ⟨J1.stop F2 io2 H2 y, ?_⟩
    obtain ⟨r', e5, st5, k, po⟩ := stow_po (hP0 _ _ _ k) (show PoE p.K p.z F io H _ _ σ (.dic acc, true) (.ref D) _ from ⟨F2, io2, y1.trans y, s2, f2.own hD2 (.dic r2)⟩)
    exact k _ _ po
theorem e_dcm {ll : Bool} {ek ew : E} {t : T} {it : I} {c : Es} {own : List (Str × Nat)} {kx vx tg iter : Expr} {ifs : List Expr} {scope : Scope} (S : Sok p X) (hq : p.hot = false) (hi : PI X tg iter (tit p it)) (hs : ∀ x, foldedSetIterable iter X.env x = pure x) (ok : BlkOk X.N X.env.scope scope own)
    (ht : ∀ i ∈ tgs t, i ∈ own.map (·.2)) (hg : BlkG X p scope tg t) (hk : BlkE X p scope kx ek) (he : BlkE X p scope vx ew) (hc : BlkC X p scope ifs c) : PE X (.DictComp kx vx [⟨tg, iter, ifs, 0⟩] scope pos) (tev p (.dcm ll ek ew t it c own)) :=
  PE.imp (pe_dc (S.calm hq) S.nd hi ok (fun s H C cl fp => pg_gtvI fun z' => (hg.ok s H C cl fp z').pg) (hc.pts) (fun s H C cl fp => pe_tevI fun z' => (hk.ok s H C cl fp z').pe) (fun s H C cl fp => pe_tevI fun z' => (he.ok s H C cl fp z').pe) hs) fun σ H Q q => dcm_go (by cases hc <;> rfl) ht q
/-- name = {..} -/
theorem ps_setDc {i : Nat} {y : Str} {py : Pos} {kx vx tg iter : Expr} {ifs : List Expr} {scope : Scope} {own : List (Str × Nat)} {pos spos : Pos} {wi : TI} {g : TG} {tt : TT} {tk tv : TE} (hc : X.calm = true) (hN : X.N.Nodup) (hy : X.N[i]? = some y) (hyl : X.env.scope.names.lookup y = some .local)
    (hsw : swapsWith (.DictComp kx vx [⟨tg, iter, ifs, 0⟩] scope pos) (some (.Name y py)) spos.line X.env = pure true) (hi : PI X tg iter wi) (ok : BlkOk X.N X.env.scope scope own)
    (hg : ∀ (s : Shared) (H : Hp) (C : Addr) (cl : List (Str × Addr)) (fp : List Addr), PG (X.blk s H scope (compEnvC scope cl C X.env) fp) tg g) (ht : ∀ (s : Shared) (H : Hp) (C : Addr) (cl : List (Str × Addr)) (fp : List Addr), PTs (X.blk s H scope (compEnvC scope cl C X.env) fp) ifs tt)
    (hk : ∀ (s : Shared) (H : Hp) (C : Addr) (cl : List (Str × Addr)) (fp : List Addr), PE (X.blk s H scope (compEnvC scope cl C X.env) fp) kx tk)
    (he : ∀ (s : Shared) (H : Hp) (C : Addr) (cl : List (Str × Addr)) (fp : List Addr), PE (X.blk s H scope (compEnvC scope cl C X.env) fp) vx tv) (hs : ∀ x, foldedSetIterable iter X.env x = pure x) :
    PS X (.Assign [.Name y py] (.DictComp kx vx [⟨tg, iter, ifs, 0⟩] scope pos) spos) (tAsg (tDc wi g tt tk tv (own.map (·.2))) (gName i)) := by
  refine ⟨fun pins s σ H D I h => ?_⟩
  rw [exec_Assign_Name_used _ _ _ _ hsw]
  refine wpAny_bind (wpAny_standAt (wpAny_bind ?_))
  show wpAny _ X.A (do let _ ← comprehension (.DictComp kx vx [⟨tg, iter, ifs, 0⟩] scope pos) scope X.env (firstIterPos [⟨tg, iter, ifs, 0⟩] pos) newDict false (eval iter X.env) (some (assign (.Name y py) X.env))) _ _ s
  have h : tDc wi g tt tk tv (own.map (·.2)) σ H (fun x H1 => gName i x σ H1 D.nx) := h
  refine wpAny_bind (thn (dc_core (Qf := fun _ s' => SP X pins D .next s') hc hN I hi ok hg ht hk he hs h fun L C s' m H' I' q hn f => ?_) fun _ s' hq => wpAny_pure (wpAny_pure hq))
  show wpAny _ _ (assign (.Name y py) X.env (.ref L)) _ _ _
  refine wpAny_assign_Name (store_ok2 (v := V.ref L) I' hN hy (.inl hyl) rfl (fun s2 I2 ⟨a, sb, ha⟩ => ?_) (.inr hyl))
  obtain ⟨f0, f1, f2, f3, f4, f5⟩ := f
  have haC : C ≠ a := by
    rcases ha with z | z
    · rw [z]; exact f1
    · exact fun e => f4 y a z e.symm
  refine ⟨m, hn.sameBut sb haC, fun h3 sb3 => ?_⟩
  exact ⟨_, H', I2.turned (t' := s2.toks) (fun b o hb e => (sb3.2 b hb).trans e) f0 f1 f3 f4 f5, q⟩
theorem sw_trueD {kx vx : Expr} {gs : List Comprehension} {scope : Scope} {pos py : Pos} {y : Str} {l : Nat} {env : Env} (hk : env.scope.kind = .function) (hy : env.scope.names.lookup y = some .local) (hl : (py.line == pos.line) = true)
    (ha : (scope.names.any fun (n, k) => n == y && (k == .local || k == .cell)) = false) : swapsWith (.DictComp kx vx gs scope pos) (some (.Name y py)) l env = pure true := by
  have ky : env.kindOf y = some .local := hy
  have hb : env.blockKind = .function := by unfold Env.blockKind; rw [hk]; rfl
  unfold swapsWith
  simp only [hb, ky, ha, Expr.pos, hl]
  rfl
theorem s_setDc {ll : Bool} {ek ew : E} {t : T} {it : I} {c : Es} {own : List (Str × Nat)} {kx vx tg iter : Expr} {ifs : List Expr} {scope : Scope} {i : Nat} {y : Str} {py spos : Pos} (S : Sok p X) (hq : p.hot = false) (hy : X.N[i]? = some y) (hyl : X.env.scope.names.lookup y = some .local)
    (hl : (py.line == pos.line) = true) (ha : (scope.names.any fun (n, k) => n == y && (k == .local || k == .cell)) = false) (hi : PI X tg iter (tit p it)) (hs : ∀ x, foldedSetIterable iter X.env x = pure x) (ok : BlkOk X.N X.env.scope scope own)
    (ht : ∀ i ∈ tgs t, i ∈ own.map (·.2)) (hg : BlkG X p scope tg t) (hk : BlkE X p scope kx ek) (he : BlkE X p scope vx ew) (hc : BlkC X p scope ifs c) : PS X (.Assign [.Name y py] (.DictComp kx vx [⟨tg, iter, ifs, 0⟩] scope pos) spos) (fun D σ H => tev p (.dcm ll ek ew t it c own) σ H fun x H1 => gName i x σ H1 D.nx) :=
  ⟨fun pins s σ H D I q => (ps_setDc (S.calm hq) S.nd hy hyl (sw_trueD I.ok.kind hyl hl ha) hi ok (fun s H C cl fp => pg_gtvI fun z' => (hg.ok s H C cl fp z').pg) (hc.pts) (fun s H C cl fp => pe_tevI fun z' => (hk.ok s H C cl fp z').pe) (fun s H C cl fp => pe_tevI fun z' => (he.ok s H C cl fp z').pe) hs).run pins s σ H D I (dcm_go (by cases hc <;> rfl) ht q)⟩
end
end Pv
namespace Pv
open PySem PySem.Spec PyProof.Rows L2
/-! ## statements -/
def PoO (p : Px) (F : Zn) (io : List Addr) (H : Hp) (D : Ends) : O → En → Sto → Prop := fun o e' st' => match o with
  | .nx => ∀ σ' H', PoG p.K p.z F io H e' st' σ' H' → D.nx σ' H'
  | .bk => ∀ σ' H', PoG p.K p.z F io H e' st' σ' H' → D.bk σ' H'
  | .ct => ∀ σ' H', PoG p.K p.z F io H e' st' σ' H' → D.ct σ' H'
  | .rt d w => ∀ v σ' H', PoE p.K p.z F io H e' st' σ' (d, w) v H' → D.rt v H'
def tst (p : Px) (c : S) : TS := fun D σ H => ∃ F io e st, SR p.K p.z F io e st σ H ∧ Res (xS p.B p.G c e st) (PoO p F io H D) (XS p F io H)
def tstL (p : Px) (c : Ss) : TS := fun D σ H => ∃ F io e st, SR p.K p.z F io e st σ H ∧ Res (xL p.B p.G c e st) (PoO p F io H D) (XS p F io H)
section
variable {p : Px} {X : Cx} {F F' : Zn} {io io' : List Addr} {H H' : Hp} {e : En} {st : Sto} {σ : L2.St} {a b tg : Expr} {l : List Expr} {pos : Pos} {c : E} {sx : Stmt} {D : Ends}
theorem PoO.ext {o : O} {e' : En} {st' : Sto} (y : Ext F io H F' io' H') (h : PoO p F io H D o e' st') : PoO p F' io' H' D o e' st' := by
  cases o with
  | nx => exact fun σ' H' po => h σ' H' (PoG.ext y po)
  | bk => exact fun σ' H' po => h σ' H' (PoG.ext y po)
  | ct => exact fun σ' H' po => h σ' H' (PoG.ext y po)
  | rt d w => exact fun v σ' H' po => h v σ' H' (PoE.ext y po)
theorem PS.imp {t t' : TS} (h : PS X sx t) (i : ∀ D σ H, t' D σ H → t D σ H) : PS X sx t' := ⟨fun pins s σ H D I q => h.run pins s σ H D I (i _ _ _ q)⟩
theorem PSs.imp {sx : List Stmt} {t t' : TS} (h : PSs X sx t) (i : ∀ D σ H, t' D σ H → t D σ H) : PSs X sx t' := ⟨fun pins s σ H D I q => h.run pins s σ H D I (i _ _ _ q)⟩
theorem PoE.poG {r : DB} {e' : En} {st' : Sto} {v : V} (h : PoE p.K p.z F io H e' st' σ r v H') : PoG p.K p.z F io H e' st' σ H' := let ⟨F', io', y, s, _⟩ := h; ⟨F', io', y, s⟩
/-- nothing that is more than a block, raises one's own -/
theorem XW.xs {x : Xc} {e' : En} {st' : Sto} (h : ∀ σ', XW p F io H σ' x e' st') : XS p F io H x e' st' := fun σ' cls d H2 po => h σ' cls d H2 po
theorem s_exp (h : EOK X p a c) (hs : swapsWith a none pos.line X.env = pure false) : PS X (.Expr a pos) (tst p (.exp c)) := by
  refine PS.imp (ps_expr h.pe hs) fun D σ H ⟨F, io, e, st, s, k⟩ => ?_
  rw [xS] at k
  exact ⟨F, io, e, st, s, k.of_bind.mono (fun r e' st' k v H' po => k _ _ po.poG) fun _ _ _ x => x.xw⟩
theorem s_set {t : T} (h : EOK X p a c) (ht : GOK X p tg t) (hs : swapsWith a (some tg) pos.line X.env = pure false) (hw : swappedStores [tg] a X.env = pure none) : PS X (.Assign [tg] a pos) (tst p (.set t c)) := by
  refine PS.imp (ps_asg h.pe ht.pg hs hw (by rw [ht.ns]; rfl)) fun D σ H ⟨F, io, e, st, s, k⟩ => ?_
  rw [xS] at k
  refine ⟨F, io, e, st, s, k.of_bind.mono (fun r e' st' k v H' po => ?_) fun _ _ _ x => x.xw⟩
  obtain ⟨F', io', y, s', hv⟩ := po
  exact ⟨F', io', e', st', r, s', hv, k.of_bind.mono (fun _ e2 st2 k σ2 H2 _ po => k _ _ (PoG.ext y po)) fun _ _ _ x => XS.ext y x⟩
theorem op_aug {op : Operator} : OpR X (inplaceOp op) (fun x y H Q => ∃ F io dx dy d, RO X.K H F io x dx ∧ RO X.K H F io y dy ∧ augD op dx dy = some d ∧ ∀ v, Rep X.K H F io v d → Q v H) := by
  cases op with
  | Add =>
    refine OpR.imp ((iop_add (X := X)).or iop_add_str) ?_
    rintro x y H Q ⟨F, io, dx, dy, r, hx, hy, e, q⟩
    cases dx <;> cases dy <;> simp only [augD] at e <;> try contradiction
    · cases e; exact .inl ⟨_, _, hx.int, hy.int, q _ (.int _)⟩
    · split at e
      · rename_i hl; cases e
        exact .inr ⟨_, _, hx.str, hy.str, by rw [← sizeMax_eq]; exact hl, q _ (.str _)⟩
      · contradiction
  | Sub =>
    refine OpR.imp (iop_sub (X := X)) ?_
    rintro x y H Q ⟨F, io, dx, dy, r, hx, hy, e, q⟩
    cases dx <;> cases dy <;> simp only [augD] at e <;> try contradiction
    cases e; exact ⟨_, _, hx.int, hy.int, q _ (.int _)⟩
  | _ =>
    intro pins s σ H x y v u Q I rx ry h
    obtain ⟨F, io, dx, dy, r, hx, hy, e, q⟩ := h
    cases dx <;> cases dy <;> simp [augD] at e
theorem ev_len {e' : En} {st' : Sto} (s : SR p.K p.z F io e st σ H) (s' : SR p.K p.z F' io' e' st' σ H') : e.length = e'.length := s.el.trans s'.el.symm
theorem s_aug {i : Nat} {x : Str} {op : Operator} {px : Pos} (S : Sok p X) (hi : X.N[i]? = some x) (hx : Loc X.env.scope x) (hf : X.fn x = true ∨ X.env.scope.names.lookup x = some .local) (h : EOK X p a c) :
    PS X (.AugAssign (.Name x px) op a pos) (tst p (.aug i op c)) := by
  refine PS.imp (ps_aug (ti := _) S.nd hi hx h.pe op_aug hf) fun D σ H ⟨F, io, e, st, s, k⟩ => ?_
  rw [xS] at k
  split at k
  · rename_i d hd
    obtain ⟨vx, g1, g2⟩ := s.fr i d hd
    refine ⟨vx, g1, F, io, e, st, s, k.of_bind.mono (fun r e' st' k v H' po => ?_) fun _ _ _ x => x.xw⟩
    obtain ⟨F', io', y, s', hv⟩ := po.frz
    split at k
    · rename_i r' hr
      refine ⟨F', io', d, r.1, r', S.K ▸ .inl (g2.ext y), S.K ▸ .inl hv, hr, fun w hw => ?_⟩
      have hl : i < e'.length := by rw [← ev_len s s']; exact (List.getElem?_eq_some_iff.mp hd).1
      exact k _ _ ⟨F', io', y, s'.put (r := (r', false)) (S.K ▸ hw) hl⟩
    · exact k.elim
  · exact k.elim
theorem s_ret (h : EOK X p a c) : PS X (.Return (some a) pos) (tst p (.ret c)) := by
  refine PS.imp (ps_ret h.pe) fun D σ H ⟨F, io, e, st, s, k⟩ => ?_
  rw [xS] at k
  exact ⟨F, io, e, st, s, k.of_bind.mono (fun r e' st' k v H' po => k v σ H' po) fun _ _ _ x => x.xw⟩
theorem s_retN : PS X (.Return none pos) (tst p .retN) := by
  refine PS.imp ps_retN fun D σ H ⟨F, io, e, st, s, k⟩ => ?_
  rw [xS] at k
  exact k .non σ H (NV.po s (.val .non))
theorem atom_rep {K : PySem.W.Frag} {v : V} {d : Pv.D} (h : atomB d = true) (r : Rep K H F io v d) (H' : Hp) (F' : Zn) (io' : List Addr) : Rep K H' F' io' v d := by
  cases d <;> simp [atomB] at h
  · cases r; exact .non
  · cases r; exact .bl _
  · cases r; exact .int _
  · cases r; exact .str _
theorem RepL.rev2 {K : PySem.W.Frag} : ∀ {vs : List V} {ds : List Pv.D} (fs : List Str), (ds.all atomB = true) → RepL K H F io vs ds → vs.length = fs.length → ∀ (H' : Hp) (F' : Zn) (io' : List Addr),
    ((fs.zip vs).reverse.map (·.1) = (fs.zip ds).reverse.map (·.1)) ∧ RepL K H' F' io' ((fs.zip vs).reverse.map (·.2)) ((fs.zip ds).reverse.map (·.2)) := by
  intro vs ds fs ha r hl H' F' io'
  have hl2 : ds.length = fs.length := by rw [← r.length]; exact hl
  rw [List.map_reverse, List.map_reverse, List.map_reverse, List.map_reverse]
  have e1 : (fs.zip vs).map (·.1) = fs := List.map_fst_zip (by omega)
  have e2 : (fs.zip ds).map (·.1) = fs := List.map_fst_zip (by omega)
  have e3 : (fs.zip vs).map (·.2) = vs := List.map_snd_zip (by omega)
  have e4 : (fs.zip ds).map (·.2) = ds := List.map_snd_zip (by omega)
  rw [e1, e2, e3, e4]
  refine ⟨rfl, RepL.reverse ?_⟩
  clear hl hl2 e1 e2 e3 e4
  induction ds generalizing vs with
  | nil => cases r; exact .nil
  | cons d ds ih =>
    cases r with
    | cons r1 r2 =>
      simp only [List.all_cons, Bool.and_eq_true] at ha
      exact .cons (atom_rep ha.1 r1 _ _ _) (ih ha.2 r2)
/-- raise C(e, ..) -/
theorem s_rse {c : Str} {fs : List Str} {es : Es} {l : List Expr} {xp rp : Pos} (S : Sok p X) (hq : p.hot = false) (hxn : (c, fs) ∈ p.ct.xn) (hfl : fs.length ≤ 1000) (h : EsOK X p es (a :: l)) (hg : Gl X c) (hdb : (c == ("__debug__" : Str)) = false) : PS X (.Raise (some (.Call (.Name c xp) (a :: l) [] pos)) none rp) (tst p (.rse c fs es)) := by
  obtain ⟨C, fI, fd, ps, k, hm, T, iC, tI, Fn, hno, hr, hb⟩ := S.exn c fs hxn
  have ha : PA X (a :: l) (tag p es) := h.pes.pa
  have r := raise1 (p := xp) (pos := pos) (rp := rp) (S.calm hq) S.tk T iC tI Fn hno hfl hr hb hg hm ha (fun σ H Q Q' m q => q.mono m) hdb h.head (h.tail pos)
  refine PS.imp r fun D σ H ⟨F, io, e, st, s, k⟩ => ?_
  rw [xS] at k
  refine ⟨F, io, e, st, s, k.of_bind.mono (fun as e' st' k vs H1 ⟨F1, io1, y1, s1, ra⟩ => ?_) fun _ _ _ x => x.xw⟩
  split at k
  · rename_i ds hds
    split at k
    · rename_i hat
      obtain ⟨F2, y2, s2, rl⟩ := s1.fz ra hds
      have hlv : vs.length = fs.length := by rw [rl.length]; exact hat.1
      refine ⟨hlv, fun dd hdd => ?_⟩
      obtain ⟨z1, z2⟩ := RepL.rev2 fs hat.2 rl hlv (upd H1 dd (.xd (fs.zip vs).reverse)) F2 io1
      refine k σ _ _ _ ⟨F2, io1, y1.trans (y2.trans (ext_new hdd s2.cel.dom)), s2.newObj hdd, C, some dd, (fs.zip vs).reverse, ?_, rfl, rfl, fun b hb => by cases hb; exact ⟨upd_same, (s2.cel.free hdd).1⟩, z1, z2, fun h => by cases h⟩
      rw [← S.mg]; exact hm
    · exact k.elim
  · exact k.elim
theorem s_brk : PS X (.Break pos) (tst p .brk) := by
  refine PS.imp ps_break fun D σ H ⟨F, io, e, st, s, k⟩ => ?_
  rw [xS] at k
  exact k σ H ⟨F, io, .refl .., s⟩
theorem s_cnt : PS X (.Continue pos) (tst p .cnt) := by
  refine PS.imp ps_continue fun D σ H ⟨F, io, e, st, s, k⟩ => ?_
  rw [xS] at k
  exact k σ H ⟨F, io, .refl .., s⟩
theorem s_pas : PS X (.Pass pos) (tst p .pas) := by
  refine PS.imp ps_pass fun D σ H ⟨F, io, e, st, s, k⟩ => ?_
  rw [xS] at k
  exact k σ H ⟨F, io, .refl .., s⟩
theorem s_doc {x : Str} {j : Nat} {p1 p2 : Pos} : PS X (.Expr (.Constant (.str x) j p1) p2) (tst p .pas) := by
  refine PS.imp ps_doc fun D σ H ⟨F, io, e, st, s, k⟩ => ?_
  rw [xS] at k
  exact k σ H ⟨F, io, .refl .., s⟩
theorem s_nev : PS X sx (tst p .nev) := by
  refine PS.imp ps_never fun D σ H ⟨F, io, e, st, s, k⟩ => ?_
  rw [xS] at k
  exact k.elim
theorem ss_nil : PSs X [] (tstL p .nil) := by
  refine PSs.imp pss_nil fun D σ H ⟨F, io, e, st, s, k⟩ => ?_
  rw [xL] at k
  exact k σ H ⟨F, io, .refl .., s⟩
theorem ss_cons {r : List Stmt} {c : S} {cs : Ss} (h : PS X sx (tst p c)) (hr : PSs X r (tstL p cs)) : PSs X (sx :: r) (tstL p (.cons c cs)) := by
  refine PSs.imp (pss_cons h hr) fun D σ H ⟨F, io, e, st, s, k⟩ => ?_
  rw [xL] at k
  refine ⟨F, io, e, st, s, k.of_bind.mono (fun o e' st' k => ?_) fun _ _ _ x => x⟩
  cases o with
  | nx =>
    intro σ' H' po
    obtain ⟨F', io', y, s'⟩ := po
    exact ⟨F', io', e', st', s', Res.mono k (fun _ _ _ k => PoO.ext y k) fun _ _ _ x => XS.ext y x⟩
  | bk => exact k
  | ct => exact k
  | rt d w => exact k
theorem evB_tpt {P : Bool → En → Sto → Prop} {E : Xc → En → Sto → Prop} (k : Res (evB p.B p.G c e st) P E) : bRes (ev p.B p.G c e st) P E := by
  unfold evB at k
  refine k.of_bind.mono (fun r e' st' k => ?_) fun _ _ _ x => x
  obtain ⟨d, w⟩ := r
  cases d <;> try exact k.elim
  exact ⟨_, rfl, k⟩
theorem s_ifs {A B : List Stmt} {ca cb : Ss} (h : EOK X p a c) (hA : PSs X A (tstL p ca)) (hB : PSs X B (tstL p cb)) : PS X (.If a A B pos) (tst p (.ifs c ca cb)) := by
  refine PS.imp (ps_if h.pt hA hB) fun D σ H ⟨F, io, e, st, s, k⟩ => ?_
  rw [xS] at k
  refine ⟨F, io, e, st, s, Res.mono (evB_tpt k.of_bind) (fun r e' st' ⟨b, hb, k⟩ => ⟨b, hb, fun H' po => ?_⟩) fun _ _ _ x => x.xw⟩
  obtain ⟨F', io', y, s'⟩ := po
  cases b with
  | true => exact iteT ⟨F', io', e', st', s', Res.mono k (fun _ _ _ k => PoO.ext y k) fun _ _ _ x => XS.ext y x⟩
  | false => exact iteF ⟨F', io', e', st', s', Res.mono k (fun _ _ _ k => PoO.ext y k) fun _ _ _ x => XS.ext y x⟩
theorem s_whl {B : List Stmt} {cb : Ss} (hp : PassesOwn (model X.prog X.w) X.A X.env X.xe) (h : EOK X p a c) (hB : PSs X B (tstL p cb)) : PS X (.While a B [] pos) (tst p (.whl c cb)) := by
  refine PS.imp (ps_while hp h.pt hB) fun D σ H ⟨F, io, e, st, s, k⟩ => ?_
  rw [xS] at k
  refine ⟨fun m σ2 H2 => ∃ F2 io2 e2 st2, Ext F io H F2 io2 H2 ∧ SR p.K p.z F2 io2 e2 st2 σ2 H2 ∧ Res (whlL (fun e s => evB p.B p.G c e s) (fun e s => xL p.B p.G cb e s) m e2 st2) (PoO p F io H D) (XS p F io H),
    ⟨fuel, F, io, e, st, .refl .., s, k⟩, fun m σ2 H2 ⟨F2, io2, e2, st2, y, s2, k⟩ => ?_⟩
  cases m with
  | zero => rw [whlL] at k; exact k.elim
  | succ m =>
    rw [whlL] at k
    refine ⟨F2, io2, e2, st2, s2, Res.mono (evB_tpt k.of_bind) (fun r e' st' ⟨b, hb, k⟩ => ⟨b, hb, fun H' po => ?_⟩) fun _ _ _ x => (XS.ext y x).xw⟩
    obtain ⟨F3, io3, y3, s3⟩ := po
    cases b with
    | true =>
      refine iteT ⟨fun σ' H' => ∃ F2 io2 e2 st2, Ext F io H F2 io2 H' ∧ SR p.K p.z F2 io2 e2 st2 σ' H' ∧ Res (whlL (fun e s => evB p.B p.G c e s) (fun e s => xL p.B p.G cb e s) m e2 st2) (PoO p F io H D) (XS p F io H),
        fun σ' H' w => ⟨m, Nat.lt_succ_self m, w⟩, F3, io3, e', st', s3, ?_⟩
      have k : Res ((xL p.B p.G cb e' st').bind _) _ _ := k
      refine k.of_bind.mono (fun o e4 st4 k => ?_) fun _ _ _ x => XS.ext (y.trans y3) x
      cases o with
      | nx => exact fun σ' H' ⟨F4, io4, y4, s4⟩ => ⟨F4, io4, e4, st4, (y.trans y3).trans y4, s4, k⟩
      | ct => exact fun σ' H' ⟨F4, io4, y4, s4⟩ => ⟨F4, io4, e4, st4, (y.trans y3).trans y4, s4, k⟩
      | bk => exact fun σ' H' po => k σ' H' (PoG.ext (y.trans y3) po)
      | rt d w => exact fun v σ' H' po => k v σ' H' (PoE.ext (y.trans y3) po)
    | false => exact iteF (k σ2 H' ⟨F3, io3, y.trans y3, s3⟩)
theorem s_for {B : List Stmt} {cb : Ss} {it : I} {t : T} {iter : Expr} (hp : PassesOwn (model X.prog X.w) X.A X.env X.xe) (hc : X.calm = true) (hi : PI X tg iter (tit p it)) (ht : GOK X p tg t) (hB : PSs X B (tstL p cb))
    (hs : ∀ x, foldedSetIterable iter X.env x = pure x) : PS X (.For tg iter B [] pos) (tst p (.for_ t it cb)) := by
  refine PS.imp (ps_for hp hc hi ht.pg hB hs) fun D σ H ⟨F, io, e, st, s, k⟩ => ?_
  rw [xS] at k
  refine ⟨F, io, e, st, s, k.of_bind.mono (fun items e' st' k J H' ⟨F1, io1, y1, s1, J1⟩ => ?_) fun _ _ _ x => x.xw⟩
  refine ⟨fun i m σ2 H2 => m = items.length - i ∧ i ≤ items.length ∧ ∃ F2 io2 e2 st2, Ext F1 io1 H' F2 io2 H2 ∧ SR p.K p.z F2 io2 e2 st2 σ2 H2 ∧
      Res (forL (fun x e s => (asg p.B p.G t (x, false) e s).bind fun _ e s => xL p.B p.G cb e s) (items.drop i) e2 st2) (PoO p F io H D) (XS p F io H),
    ⟨items.length, by simp, Nat.zero_le _, F1, io1, e', st', .refl .., s1, by simpa using k⟩, fun i m σ2 H2 ⟨hm, hi, F2, io2, e2, st2, y, s2, k⟩ => ?_⟩
  by_cases hlt : i < items.length
  · have hd : items[i]? = some items[i] := List.getElem?_eq_getElem hlt
    rw [List.drop_eq_getElem_cons hlt, forL] at k
    obtain ⟨g, yl⟩ := J1.go i items[i] F2 io2 H2 y s2.cel.dom hd
    refine .inr ⟨g, fun σ' H3 => ∃ F2 io2 e2 st2, Ext F1 io1 H' F2 io2 H3 ∧ SR p.K p.z F2 io2 e2 st2 σ' H3 ∧
      Res (forL (fun x e s => (asg p.B p.G t (x, false) e s).bind fun _ e s => xL p.B p.G cb e s) (items.drop (i + 1)) e2 st2) (PoO p F io H D) (XS p F io H),
      fun σ' H3 w => ⟨items.length - (i + 1), by omega, rfl, hlt, w⟩, fun x H3 hy => ?_⟩
    obtain ⟨hH, hx⟩ := yl x H3 hy
    have s3 : SR p.K p.z F2 io2 e2 st2 σ2 H3 ∧ Ext F2 io2 H2 F2 io2 H3 := by
      rcases hH with rfl | ⟨T, xs, hT, rfl⟩
      · exact ⟨s2, .refl ..⟩
      · exact ⟨s2.newObj hT, ext_new hT s2.cel.dom⟩
    obtain ⟨s3, y3⟩ := s3
    have yy := y1.trans (y.trans y3)
    refine ⟨F2, io2, e2, st2, (items[i], false), s3, hx, ?_⟩
    have k := k.of_bind
    refine Res.mono (Res.of_bind k) (fun _ e4 st4 k σ4 H4 _ ⟨F4, io4, y4, s4⟩ => ?_) fun _ _ _ x => XS.ext yy x
    refine ⟨F4, io4, e4, st4, s4, Res.mono k (fun o e5 st5 k => ?_) fun _ _ _ x => XS.ext (yy.trans y4) x⟩
    cases o with
    | nx => exact fun σ' H' ⟨F5, io5, y5, s5⟩ => ⟨F5, io5, e5, st5, ((y.trans y3).trans y4).trans y5, s5, k⟩
    | ct => exact fun σ' H' ⟨F5, io5, y5, s5⟩ => ⟨F5, io5, e5, st5, ((y.trans y3).trans y4).trans y5, s5, k⟩
    | bk => exact fun σ' H' po => k σ' H' (PoG.ext (yy.trans y4) po)
    | rt d w => exact fun v σ' H' po => k v σ' H' (PoE.ext (yy.trans y4) po)
  · have e1 : i = items.length := by omega
    subst e1
    rw [List.drop_length, forL] at k
    exact .inl ⟨J1.stop F2 io2 H2 y, k σ2 H2 ⟨F2, io2, y1.trans y, s2⟩⟩
/-- behind a loop over a list of the store -/
def fosK (n : Nat) (xs : List Pv.D) : O → En → Sto → R O := fun o e s => match o with
  | .nx => if isL s n xs then .ok .nx e s else .no
  | o => .ok o e s
theorem s_fos {B : List Stmt} {cb : Ss} {o : E} {t : T} {iter : Expr} (hp : PassesOwn (model X.prog X.w) X.A X.env X.xe) (hc : X.calm = true) (hK : X.K = p.K) (hi : PI X tg iter (iList X.K (tev p o))) (ht : GOK X p tg t) (hB : PSs X B (tstL p cb))
    (hs : ∀ x, foldedSetIterable iter X.env x = pure x) : PS X (.For tg iter B [] pos) (tst p (.fos t o cb)) := by
  refine PS.imp (ps_for hp hc hi ht.pg hB hs) fun D σ H ⟨F, io, e, st, s, k⟩ => ?_
  rw [xS] at k
  rw [hK]
  refine ⟨F, io, e, st, s, k.of_bind.mono (fun r e' st' k v H' po => ?_) fun _ _ _ x => x.xw⟩
  obtain ⟨F1, io1, y1, s1, hv⟩ := po.frz
  split at k <;> try exact k.elim
  rename_i n hr
  split at k <;> try exact k.elim
  rename_i items hst
  rw [hr] at hv
  cases hv with
  | @loc a _ hio =>
  obtain ⟨u, hu, hr0⟩ := s1.cel.cell n a _ hio hst
  cases hr0 with
  | @lst ws0 _ r0 =>
  refine ⟨a, rfl, ⟨ws0, .of hu⟩, ?_⟩
  have k : Res ((forL (fun x e s => if isL s n items then (asg p.B p.G t (x, false) e s).bind fun _ e s => xL p.B p.G cb e s else .no) items e' st').bind (fosK n items)) (PoO p F io H D) (XS p F io H) := k
  generalize hf : (fun x e s => if isL s n items then (asg p.B p.G t (x, false) e s).bind fun _ e s => xL p.B p.G cb e s else R.no : Pv.D → En → Sto → R O) = f at k
  refine ⟨fun i m σ2 H2 => m = items.length - i ∧ i ≤ items.length ∧ ∃ F2 io2 e2 st2, Ext F1 io1 H' F2 io2 H2 ∧ SR p.K p.z F2 io2 e2 st2 σ2 H2 ∧
      Res ((forL f (items.drop i) e2 st2).bind (fosK n items)) (PoO p F io H D) (XS p F io H),
    ⟨items.length, by simp, Nat.zero_le _, F1, io1, e', st', .refl .., s1, by simpa using k⟩, fun i m σ2 H2 ⟨hm, hi, F2, io2, e2, st2, y, s2, k⟩ => ?_⟩
  have look : isL st2 n items = true → ∃ ws2, H2 a = some (.lst ws2) ∧ RepL p.K H2 F2 io2 ws2 items := fun q => by
    obtain ⟨u2, hu2, hr2⟩ := s2.cel.cell n a _ (y.get hio) (isL_eq q)
    cases hr2 with
    | @lst ws2 _ rr => exact ⟨ws2, hu2, rr⟩
  by_cases hlt : i < items.length
  · have hd : items[i]? = some items[i] := List.getElem?_eq_getElem hlt
    rw [List.drop_eq_getElem_cons hlt, forL] at k
    have k := k.of_bind.of_bind
    rw [← hf] at k
    have k : Res (if isL st2 n items then (asg p.B p.G t (items[i], false) e2 st2).bind fun _ e s => xL p.B p.G cb e s else R.no) _ _ := k
    split at k
    case isFalse => exact k.elim
    rename_i hsame
    rw [hf] at k
    obtain ⟨ws2, hu2, rr2⟩ := look hsame
    have ha2 : SqL p.K H2 a ws2 := .of hu2
    obtain ⟨v0, b1, b2⟩ := rr2.get hd
    refine .inr ⟨⟨ws2, v0, ha2, b1⟩, fun σ' H3 => ∃ F2 io2 e2 st2, Ext F1 io1 H' F2 io2 H3 ∧ SR p.K p.z F2 io2 e2 st2 σ' H3 ∧
      Res ((forL f (items.drop (i + 1)) e2 st2).bind (fosK n items)) (PoO p F io H D) (XS p F io H),
      fun σ' H3 w => ⟨items.length - (i + 1), by omega, rfl, hlt, w⟩, fun x H3 hy => ?_⟩
    obtain ⟨rfl, hy⟩ := hy
    have hy := hy ws2 ha2
    rw [b1] at hy
    cases hy
    have yy := y1.trans y
    refine ⟨F2, io2, e2, st2, (items[i], false), s2, b2, ?_⟩
    refine Res.mono (Res.of_bind k) (fun _ e4 st4 k σ4 H4 _ ⟨F4, io4, y4, s4⟩ => ?_) fun _ _ _ x => XS.ext yy x
    refine ⟨F4, io4, e4, st4, s4, Res.mono k (fun o e5 st5 k => ?_) fun _ _ _ x => XS.ext (yy.trans y4) x⟩
    cases o with
    | nx => exact fun σ' H' ⟨F5, io5, y5, s5⟩ => ⟨F5, io5, e5, st5, (y.trans y4).trans y5, s5, Res.to_bind k⟩
    | ct => exact fun σ' H' ⟨F5, io5, y5, s5⟩ => ⟨F5, io5, e5, st5, (y.trans y4).trans y5, s5, Res.to_bind k⟩
    | bk =>
      have k : Res (if isL st5 n items then R.ok O.nx e5 st5 else .no) (PoO p F io H D) (XS p F io H) := k
      split at k
      case isFalse => exact k.elim
      exact fun σ' H' po => k σ' H' (PoG.ext (yy.trans y4) po)
    | rt d w => exact fun v σ' H' po => k v σ' H' (PoE.ext (yy.trans y4) po)
  · have e1 : i = items.length := by omega
    subst e1
    rw [List.drop_length, forL] at k
    have k : Res (if isL st2 n items then R.ok O.nx e2 st2 else .no) (PoO p F io H D) (XS p F io H) := k
    split at k
    case isFalse => exact k.elim
    rename_i hsame
    obtain ⟨ws2, hu2, rr2⟩ := look hsame
    exact .inl ⟨⟨ws2, .of hu2, by rw [rr2.length]; exact Nat.le_refl _⟩, k σ2 H2 ⟨F2, io2, y1.trans y, s2⟩⟩
end

/-! ## list(range(..)) -/
section
variable {p : Px} {X : Cx} {F F' : Zn} {io io' : List Addr} {H H' : Hp} {e : En} {st : Sto} {σ : L2.St} {a b : Expr} {pos : Pos} {c c2 : E}
theorem rep_rg {K : PySem.W.Frag} (i j : Int) : RepL K H F io (rgV i j) (rangeL i j) := by
  unfold rgV rangeL
  induction List.range (j - i).toNat with
  | nil => exact .nil
  | cons n l ih => exact .cons (.int _) ih
theorem rangeL_len (i j : Int) : (rangeL i j).length = (j - i).toNat := by unfold rangeL; rw [List.length_map, List.length_range]
theorem e_lri1 {p1 p2 p3 : Pos} (S : Sok p X) (hq : p.hot = false) (hl : Gl X "list") (hg : Gl X "range") (h : EOK X p a c) : PE X (.Call (.Name "list" p1) [.Call (.Name "range" p2) [a] [] p3] [] pos) (tev p (.lri (.rg1 c))) := by
  refine PE.imp (pe_listRg (S.calm hq) hl (S.blt _ (by simp [bltAll])) (prg_1 hg (S.blt _ (by simp [bltAll])) h.pe (h.ns _)) rfl) fun σ H Q ⟨F, io, e, st, s, k⟩ => ?_
  rw [ev, its] at k
  refine ⟨F, io, e, st, s, k.of_bind.of_bind.mono (fun r e' st' k v H' po => ?_) fun _ _ _ x => x⟩
  obtain ⟨d, w⟩ := r
  obtain ⟨F', io', y, s', q⟩ := po.frz
  cases d <;> try exact k.elim
  rename_i j
  have k : Res (if small62 j then Pv.R.ok (rangeL 0 j) e' st' else Pv.R.no) (fun xs e s => Res (if xs.length ≤ sizeMax then Pv.R.ok (D.lst xs, true) e s else Pv.R.no) _ (XW p F io H σ)) _ := k
  split at k
  · rename_i hs
    have k : Res (if (rangeL 0 j).length ≤ sizeMax then Pv.R.ok (D.lst (rangeL 0 j), true) e' st' else Pv.R.no) _ _ := k
    split at k
    · rename_i hn
      cases q
      refine ⟨j, rfl, ⟨by decide, by decide, (small_of hs).1, (small_of hs).2, ?_⟩, fun p hp => k _ _ (PoE.ext y (NV.po s' (.lst hp (rep_rg 0 j))))⟩
      rw [rangeL_len] at hn
      exact hn
    · exact k.elim
  · exact k.elim
theorem e_lri2 {p1 p2 p3 : Pos} (S : Sok p X) (hq : p.hot = false) (hl : Gl X "list") (hg : Gl X "range") (h : EOK X p a c) (h2 : EOK X p b c2) : PE X (.Call (.Name "list" p1) [.Call (.Name "range" p2) [a, b] [] p3] [] pos) (tev p (.lri (.rg2 c c2))) := by
  refine PE.imp (pe_listRg (S.calm hq) hl (S.blt _ (by simp [bltAll])) (prg_2 hg (S.blt _ (by simp [bltAll])) h.pe h2.pe (by rw [h.ns]) (h2.ns _) (by rw [h2.ns]; rfl)) rfl) fun σ H Q ⟨F, io, e, st, s, k⟩ => ?_
  rw [ev, its] at k
  refine ⟨F, io, e, st, s, k.of_bind.of_bind.mono (fun r e' st' k v H' po => ?_) fun _ _ _ x => x⟩
  obtain ⟨F', io', y, s', q⟩ := po.frz
  refine ⟨F', io', e', st', s', k.of_bind.mono (fun r2 e2 st2 k v2 H2 po => ?_) fun _ _ _ x => XW.ext y x⟩
  obtain ⟨d, w⟩ := r
  obtain ⟨d2, w2⟩ := r2
  obtain ⟨F2, io2, y2, s2, q2⟩ := po.frz
  cases d with
  | int i =>
    cases d2 with
    | int j =>
      have k : Res (if small62 i && small62 j then Pv.R.ok (rangeL i j) e2 st2 else Pv.R.no) (fun xs e s => Res (if xs.length ≤ sizeMax then Pv.R.ok (D.lst xs, true) e s else Pv.R.no) _ (XW p F io H σ)) _ := k
      split at k
      · rename_i hs
        simp only [Bool.and_eq_true] at hs
        have k : Res (if (rangeL i j).length ≤ sizeMax then Pv.R.ok (D.lst (rangeL i j), true) e2 st2 else Pv.R.no) _ _ := k
        split at k
        · rename_i hn
          cases q
          cases q2
          refine ⟨i, j, rfl, rfl, ⟨(small_of hs.1).1, (small_of hs.1).2, (small_of hs.2).1, (small_of hs.2).2, ?_⟩, fun p hp => k _ _ (PoE.ext (y.trans y2) (NV.po s2 (.lst hp (rep_rg i j))))⟩
          rw [rangeL_len] at hn
          exact hn
        · exact k.elim
      · exact k.elim
    | _ => exact k.elim
  | _ => cases d2 <;> exact k.elim
end
end Pv
namespace Pv
open PySem PySem.Spec PyProof.Rows L2
/-! ## instances of the text's classes -/
section
variable {K : PySem.W.Frag} {F F' : Zn} {io io' : List Addr} {H H' : Hp}
theorem RepF.look {f : Str} : ∀ {gs : List (Str × D)} {fs : List (Str × V)}, RepF K H F io fs gs → (lookF gs f = none ∧ fs.lookup f = none) ∨ ∃ d v, lookF gs f = some d ∧ fs.lookup f = some v ∧ Rep K H F io v d
  | [], _, h => by cases h; exact .inl ⟨rfl, rfl⟩
  | (c, d) :: gs, _, h => by
    cases h with
    | @cons k _ v kvs _ _ e a b =>
      subst e
      unfold lookF List.lookup
      by_cases hk : c = f
      · rw [if_pos hk, show (f == c) = true from beq_iff_eq.mpr hk.symm]
        exact .inr ⟨d, v, rfl, rfl, a⟩
      · rw [if_neg hk, show (f == c) = false from beq_eq_false_iff_ne.mpr fun q => hk q.symm]
        exact RepF.look b
theorem RepF.put {f : Str} {v : V} {d : D} (h' : Rep K H F io v d) : ∀ {gs : List (Str × D)} {fs : List (Str × V)}, RepF K H F io fs gs → RepF K H F io (putF f v fs) (putFD f d gs)
  | [], _, h => by cases h; exact .cons rfl h' .nil
  | (c, d0) :: gs, _, h => by
    cases h with
    | @cons k _ v0 kvs _ _ e a b =>
      subst e
      unfold putF putFD
      by_cases hk : c = f
      · rw [if_pos hk, if_pos hk]; exact .cons rfl h' b
      · rw [if_neg hk, if_neg hk]; exact .cons rfl a (RepF.put h' b)
theorem RepF.length : ∀ {gs : List (Str × D)} {fs : List (Str × V)}, RepF K H F io fs gs → fs.length = gs.length
  | [], _, h => by cases h; rfl
  | (c, d0) :: gs, _, h => by
    cases h with
    | cons e a b => simp [RepF.length b]
theorem ClsAt.eq {c : Str} {C C' : Addr} (h : ClsAt K c C) (h' : ClsAt K c C') : C = C' := by
  unfold ClsAt at h h'
  rw [h] at h'
  cases h'; rfl
end
section
variable {p : Px} {X : Cx} {F F' : Zn} {io io' : List Addr} {H H' : Hp} {e : En} {st : Sto} {σ : L2.St} {a b o : Expr} {l : List Expr} {pos : Pos} {c : E} {es : Es}
/-- o.f -/
theorem e_atr {cs : List Str} {f : Str} (S : Sok p X) (h : EsOK X p es [o]) (hcs : ∀ c ∈ cs, (c, f) ∈ p.ct.an) (hb : attributeBase o f X.env (eval o X.env) = eval o X.env) : PE X (.Attribute o f pos) (tev p (.atr cs f es)) := by
  obtain ⟨ca, rfl, ha⟩ := h.pes.one
  refine PE.imp (pe_fld ha hb) fun σ H Q ⟨F, io, e, st, s, k⟩ => ?_
  rw [ev] at k
  refine (tag1 (op_tag s k)).mono fun x H1 q => ?_
  obtain ⟨F2, io2, ds, r, hr, hg, k⟩ := q
  unfold atrO at hg
  split at hg
  · rename_i c gs
    obtain ⟨r1, _⟩ := hr
    split at hg
    · rename_i hc
      simp only [Option.map_eq_some_iff] at hg
      obtain ⟨d, hd, rfl⟩ := hg
      obtain ⟨a, C, dx, fs, rfl, h1, h2, h3⟩ := r1.obj
      obtain ⟨C', g1, g2, g3⟩ := S.att c f (hcs c (List.contains_iff_mem.mp hc))
      rw [S.K] at g1
      obtain rfl := h2.eq g1
      rcases h3.look (f := f) with ⟨q1, _⟩ | ⟨d', v, q1, q2, q3⟩
      · rw [hd] at q1; cases q1
      · rw [hd] at q1; cases q1
        exact ⟨a, C, dx, fs, v, rfl, h1, g2, g3, q2, k v H1 (.val q3)⟩
    · cases hg
  · cases hg
theorem run_makeS {C f : Addr} {fd : FuncData} {ps : List Str} {sp : Sp} {k : Nat} {pins : List (Addr × Obj)} {σ : L2.St} {H : Hp} {s : Shared} {Q : VK} {E : XK} {us : List Value} {vs : List V} (M : Mk X.K C f) (Fn : FnOk X.prog X.w X.K X.mg X.base (L2.CX X.prog X.w) k f fd ps sp) (hr : Room (k + 1) X.A) (hb : Binds X.K fd ps [])
    (hx : PassesAt (L2.CX X.prog X.w) X σ E) (I : Inv X pins σ H s) (r : Vals vs us)
    (h : ∀ x dx, H x = none → H dx = none → dx ≠ x → sp (.ref x :: vs) (upd (upd H dx (.own x)) x (.ins C dx [])) (fun v H2 => v = .non ∧ Q (.ref x) H2) E) :
    wpAny (model X.prog X.w) X.A (call (.ref C) us) (EP X pins σ Q) X.xe s := by
  have hq := h (s.heap.objs.size + 1) s.heap.objs.size (I.hok.fresh (Nat.le_succ _)) (I.hok.fresh (Nat.le_refl _)) (Nat.ne_of_lt (Nat.lt_succ_self _))
  have I2 := Inv.made (C := C) I
  have r2 : Vals (V.ref (s.heap.objs.size + 1) :: vs) (Value.ref (s.heap.objs.size + 1) :: us) := .cons rfl r
  have hl : (Value.ref (s.heap.objs.size + 1) :: us).length = ps.length := by
    have e := r2.length
    rw [Fn.len _ _ _ _ hq] at e
    exact e.symm
  have bb := hb _ (Value.ref (s.heap.objs.size + 1) :: us) I2.kIn (by rw [List.append_nil]; exact hl)
  rw [List.append_nil] at bb
  refine wpAny_call (make_map (f := f) I.kIn M.makes M.init (beq_iff_eq.mp M.fn) (codeAny_mono (Fn.run _ X.stack _ _ ⟨Value.ref (s.heap.objs.size + 1) :: us, []⟩ (Value.ref (s.heap.objs.size + 1) :: us) _ _ E (hr.make C us [])
    (I2.env0.make C us []) bb r2 hq) fun r s' hq' => ?_))
  cases r with
  | error e => exact hx pins _ _ e s' I2 hq'
  | ok fl =>
    cases fl with
    | ret u =>
      obtain ⟨v, H', I3, rv, ev, q3⟩ := I2.after hq'
      subst ev
      exact ⟨rv, ⟨V.ref (s.heap.objs.size + 1), H', I3, rfl, q3⟩⟩
    | next => exact False.elim hq'
    | brk => exact False.elim hq'
    | cont => exact False.elim hq'
/-- C(..) -/
theorem pe_new {x : Str} {pp : Pos} {C f : Addr} {fd : FuncData} {ps : List Str} {sp : Sp} {k : Nat} (S : Sok p X) (M : Mk X.K C f) (Fn : FnOk X.prog X.w X.K X.mg X.base (L2.CX X.prog X.w) k f fd ps sp) (hr : Room (k + 1) X.A) (hb : Binds X.K fd ps []) (hm : X.mg x = some (.ref C)) (hg : Gl X x) (hdb : (x == ("__debug__" : Str)) = false) (h : EsOK X p es l) :
    PE X (.Call (.Name x pp) l [] pos) (fun σ H Q => tag p es σ H fun vs H1 => ∀ x dx, H1 x = none → H1 dx = none → dx ≠ x → sp (.ref x :: vs) (upd (upd H1 dx (.own x)) x (.ins C dx [])) (fun v H2 => v = .non ∧ Q (.ref x) H2) (WE p.W σ)) := by
  refine ⟨fun pins s σ H Q I q => ?_⟩
  refine wpAny_Call_Name_kw (ld_glob I hg hm ?_ hdb)
  cases l with
  | nil =>
    cases h
    exact PySem.W.callWith_K0 I.kIn M.kp (run_makeS (us := []) M Fn hr hb (passAt S.tk σ) I .nil (tag_nil q))
  | cons ex l =>
    refine PySem.W.callWith_K (h₀ := X.base) I.ok.mod.kin M.kp (thn (h.pes.pa.run pos pins s σ H _ I q) fun us s1 ⟨vs, H1, I1, r, q⟩ => ⟨I1.kIn, ?_⟩) h.head (h.tail pos)
    exact run_makeS M Fn hr hb (passAt S.tk σ) I1 r q
theorem PoC.none {K : PySem.W.Frag} {st' : Sto} {w : Bool} {v : V} (h : PoC K F io H st' (.none, w) v H') : v = .non := by
  obtain ⟨F', io', x, c, q⟩ := h
  split at q
  · obtain ⟨a, rfl, ⟨u, h1, h2⟩, _⟩ := q
    cases h2
  · cases q; rfl
theorem e_new {cl key : Str} {pp : Pos} {pu : Bool} (S : Sok p X) (hcn : (cl, key) ∈ p.ct.cn) (hg : Gl X cl) (hdb : (cl == ("__debug__" : Str)) = false) (h : EsOK X p es l) : PE X (.Call (.Name cl pp) l [] pos) (tev p (.new pu cl key es)) := by
  obtain ⟨C, f, fd, ps, kk, hm, hC, M, Fn, hr, hb⟩ := S.new cl key hcn
  refine PE.imp (pe_new S M Fn hr hb hm hg hdb h) fun σ H Q ⟨F, io, e, st, s, h⟩ => ?_
  rw [ev] at h
  refine ⟨F, io, e, st, s, h.of_bind.mono (fun as e' st' k vs H' ⟨F', io', y, s', q⟩ => ?_) fun _ _ _ x => x⟩
  split at k
  · rename_i ds hds
    obtain ⟨F2, y2, s2, r⟩ := s'.fz q hds
    intro x dx hx hdx hne
    rw [S.K, S.mg]
    rw [S.K] at hC
    -- the new dict, the new instance
    have yd := ext_new (F := F2) (io := io') (o := .own x) hdx s2.cel.dom
    have sd := s2.newObj (o := .own x) hdx
    have hx1 : upd H' dx (.own x) x = none := by rw [upd_ne (Ne.symm hne)]; exact hx
    have yx := ext_new (F := F2) (io := io') (o := .ins C dx []) hx1 sd.cel.dom
    have sx := sd.newObj (o := .ins C dx []) hx1
    have fx := sd.cel.free hx1
    have atx : upd (upd H' dx (.own x)) x (.ins C dx []) x = some (.ins C dx []) := upd_same
    have gr : ∀ a u, upd H' dx (.own x) a = some u → upd (upd H' dx (.own x)) x (.ins C dx []) a = some u := fun a u q => by
      rw [upd_ne (fun z => by rw [z, hx1] at q; cases q)]; exact q
    split at k
    · split at k
      · rename_i hn
        -- frozen: a store of its own
        have cx : Cel p.K F2 [x] [D.obj _ []] (upd (upd H' dx (.own x)) x (.ins C dx [])) := ⟨sx.cel.dom, rfl, by simp, fun a ha => by simp at ha; subst ha; exact fx.1, fun n a d h1 h2 => by
          cases n with
          | zero => simp at h1 h2; subst h1 h2; exact ⟨_, atx, .obj hC .nil⟩
          | succ n => simp at h1⟩
        refine ⟨F2, [x], .loc 0 :: ds, [.obj _ []], cx, .cons (.loc rfl) ((r.ext (yd.trans yx)).nol [x] hn), ?_⟩
        unfold newP at k
        split at k
        · rename_i w c' fs stx hB
          rw [hB]
          intro v H2 po
          refine ⟨po.none, ?_⟩
          have ho : c' = cl := by
            split at k
            · assumption
            · exact k.elim
          subst ho
          rw [if_pos rfl] at k
          obtain ⟨F3, io3, xc, c3, _⟩ := po
          obtain ⟨lx, eio, hlx⟩ := xc.io
          have hio : io3[0]? = some x := by rw [eio]; rfl
          have hob := c3.cell 0 x _ hio rfl
          -- behind: as behind a pure call
          have nof : ¬ F3 x := c3.nof x (List.mem_iff_getElem?.mpr ⟨0, hio⟩)
          have frm : ∀ a u, upd H' dx (.own x) a = some u → H2 a = some u := fun a u q => xc.frm a u (gr a u q) (fun hm => by simp at hm; subst hm; rw [hx1] at q; cases q)
          have new : ∀ a, F3 a → F2 a ∨ upd H' dx (.own x) a = none := fun a ha => (xc.new a ha).imp id fun q => by
            cases e1 : upd H' dx (.own x) a with
            | none => rfl
            | some u => rw [gr a u e1] at q; cases q
          have mk : ∀ (d : D), (∃ u, H2 x = some u ∧ HoR p.K H2 F3 [] u d) → PoC p.K F2 [] (upd H' dx (.own x)) [] (d, true) (.ref x) H2 := fun d hd =>
            ⟨F3, [], ⟨xc.ff, fun a u q _ => frm a u q, ⟨[], rfl, fun a ha => by simp at ha⟩, new⟩, ⟨c3.dom, rfl, List.nodup_nil, fun a ha => by simp at ha, fun n a d ha => by simp at ha⟩, by
              rw [if_pos rfl]
              exact ⟨x, rfl, hd, nof, by simp, hx1⟩⟩
          obtain ⟨u, hu1, hu2⟩ := hob
          split at k
          · rename_i hi
            have po2 := mk (.obj _ fs) ⟨u, hu1, hu2.imm (fun a xs r => r) (by show immF fs = true; exact hi)⟩
            have s1 := s'.newObj (o := .own x) hdx
            have yd1 := ext_new (F := F') (io := io') (o := .own x) hdx s'.cel.dom
            exact k _ H2 (PoE.ext (y.trans yd1) (s1.callT (F1 := F2) (by show tight (.obj _ fs) true = true; simp [tight, immH, hi]) po2))
          · split at k
            · rename_i hn2
              have po2 := mk (.obj _ fs) ⟨u, hu1, hu2.nol [] (by show nolF fs = true; exact hn2)⟩
              exact k _ H2 (PoE.ext ((y.trans y2).trans yd) (sd.callN (by show nolF fs = true; exact hn2) po2))
            · exact k.elim
        · rename_i xx stx hB
          rw [hB]
          intro cls dd H2 ⟨F3, io3, x3, c3, xr⟩
          split at k
          · rename_i ha
            have gr0 : ∀ a u, H' a = some u → H2 a = some u := fun a u q => x3.frm a u (gr a u (by rw [upd_ne (fun z => by rw [z, hdx] at q; cases q)]; exact q)) (fun hm => by simp at hm; subst hm; rw [hx] at q; cases q)
            exact k cls dd H2 ⟨F', io', y.trans (ext_grow gr0), s'.grow gr0, xr.atoms ha fun a h => x3.ff a (y2.ff a h)⟩
          · exact k.elim
        · exact k.elim
      · exact k.elim
    · -- a store object
      have ow : OwR p.K p.z (upd (upd H' dx (.own x)) x (.ins C dx [])) F2 io' (Pv.fz e' as) σ (.ref x) (.obj _ []) := ⟨x, rfl, ⟨_, atx, .obj hC .nil⟩, fx.1, fx.2, sd.h0 hx1, fun i d' q1 q2 => by
        obtain ⟨b, g1, g2, _⟩ := sd.ow i d' q1
        rw [q2] at g1
        cases g1
        obtain ⟨u, q⟩ := g2.there
        rw [hx1] at q; cases q⟩
      obtain ⟨a, ea, ys, ss, rs⟩ := sx.stow ow
      cases ea
      have rr := r.ext ((yd.trans yx).trans ys)
      have hlen : io'.length = st'.length := s2.cel.len
      refine ⟨F2, io' ++ [x], .loc st'.length :: ds, st' ++ [.obj _ []], ss.cel, .cons rs rr, ?_⟩
      unfold newS at k
      split at k
      · rename_i w st2 hB
        rw [hB]
        intro v H2 po
        refine ⟨po.none, ?_⟩
        obtain ⟨F3, io3, xc, c3, _⟩ := po
        obtain ⟨lx, eio, hlx⟩ := xc.io
        have po2 : PoC p.K F2 (io' ++ [x]) (upd (upd H' dx (.own x)) x (.ins C dx [])) st2 (.loc st'.length, false) (.ref x) H2 := ⟨F3, io3, xc, c3, by
          rw [if_neg (by simp)]
          refine .loc ?_
          rw [eio, List.append_assoc, List.getElem?_append_right (by omega), hlen]
          simp⟩
        exact k _ H2 (PoE.ext (((y.trans y2).trans (yd.trans yx)).trans ys) (ss.callR po2))
      · rename_i xx st2 hB
        rw [hB]
        intro cls dd H2 ⟨F3, io3, x3, c3, xr⟩
        exact k cls dd H2 ⟨F3, io3, (((y.trans y2).trans (yd.trans yx)).trans ys).trans (x3.ext ss.cel), ss.call x3 c3, xr⟩
      · exact k.elim
  · exact k.elim
/-- o.m(args), o an instance -/
theorem pe_metD {m : Str} {apos cpos : Pos} {ta : TE} (S : Sok p X) (he : PE X o ta) (h : EsOK X p es l) (hl : l.length < 20) (hbase : attributeBase o m X.env (eval o X.env) = eval o X.env) (hline : (apos.endLine == cpos.line) = true) :
    PE X (.Call (.Attribute o m apos) l [] cpos) (fun σ H Q => ta σ H fun x H1 => ∃ c key a C dx fs, (c, m, key) ∈ p.ct.mn ∧ x = .ref a ∧ H1 a = some (.ins C dx fs) ∧ ClsAt p.K c C ∧ fs.lookup m = none ∧ tag p es σ H1 fun vs H2 => spT X.K X.mg (p.B key) (x :: vs) H2 Q (WE p.W σ)) := by
  refine ⟨fun pins s σ H Q I hq => ?_⟩
  have hst := h.pes.star
  have hfew : methodCallForm (l.length + ([] : List Keyword).length) (backTo cpos (starEach l X.env)) (backToKw cpos (keywordEach [] X.env)) = true := by
    unfold methodCallForm
    rw [hst]
    have h1 : (backTo cpos (List.map (fun ex => (false, eval ex X.env)) l)).all (fun x => !x.1) = true := by
      unfold backTo
      rw [List.map_map, List.all_map, List.all_eq_true]
      intro x _; rfl
    rw [h1]
    have h2 : l.length + 0 + 0 < 30 := by omega
    show (true && true && decide (l.length + 0 + 0 < 30)) = true
    rw [decide_eq_true h2]; rfl
  rw [arm_eval_Call, hbase]
  refine wpAny_bind (wpAny_mono (he.run pins s σ H _ I hq) (fun ov s1 h1 => ?_) fun _ _ e => e)
  obtain ⟨x, H1, I1, rx, c, key, a, C, dx, fs, hmn, ex, ea, hC, hl0, q1⟩ := h1
  subst ex
  obtain rfl : ov = Value.ref a := rx
  obtain ⟨C', f, fd, ps, kk, g1, g2, g3, Fn, hr, hb⟩ := S.met c m key hmn
  rw [S.K] at g1
  obtain rfl := hC.eq g1
  refine wpAny_bind (wpAny_standAt ?_)
  have hpos : methodCallPos true o X.env apos cpos = pure cpos := by unfold methodCallPos; simp [hline]
  unfold methodCall
  rw [hfew]
  refine wpAny_bind (wpAny_holding (getmeth_ok I1 ea g2 g3 hl0 ?_))
  refine wpAny_bind (wpAny_of_eq hpos ?_)
  cases l with
  | nil =>
    cases h
    exact PySem.W.callWith_K0 (first := [.ref a]) I1.kIn g3.kp (run_fnS (us := [.ref a]) (vs := [.ref a]) Fn hr hb (passAt S.tk σ) I1 (.cons rfl .nil) (tag_nil q1))
  | cons ex l =>
    exact PySem.W.callWith_K (first := [.ref a]) (h₀ := X.base) I1.ok.mod.kin g3.kp (thn (h.pes.pa.run cpos pins s1 σ H1 _ I1 q1) fun us s2 ⟨vs, H2, I2, r, q2⟩ => ⟨I2.kIn, run_fnS (us := .ref a :: us) (vs := .ref a :: vs) Fn hr hb (passAt S.tk σ) I2 (.cons rfl r) q2⟩) h.head (h.tail cpos)
theorem lookup_mem {α β : Type} [BEq α] [LawfulBEq α] {x : α} {y : β} : ∀ {l : List (α × β)}, l.lookup x = some y → (x, y) ∈ l
  | [], h => by cases h
  | (a, b) :: l, h => by
    unfold List.lookup at h
    split at h
    · rename_i hx
      cases h
      rw [beq_iff_eq.mp hx]
      exact List.mem_cons_self
    · exact List.mem_cons_of_mem _ (lookup_mem h)
theorem e_met {m : Str} {cs : List (Str × Str)} {os : Es} {pu : Bool} {apos cpos : Pos} (S : Sok p X) (ho : EsOK X p os [o]) (h : EsOK X p es l) (hl : l.length < 20) (hcs : ∀ c ∈ cs, (c.1, m, c.2) ∈ p.ct.mn)
    (hbase : attributeBase o m X.env (eval o X.env) = eval o X.env) (hline : (apos.endLine == cpos.line) = true) : PE X (.Call (.Attribute o m apos) l [] cpos) (tev p (.met pu cs m os es)) := by
  obtain ⟨co, rfl, hco⟩ := ho.one
  refine PE.imp (pe_metD S hco.par h hl hbase hline) fun σ H Q ⟨F, io, e, st, s, h⟩ => ?_
  rw [ev] at h
  have T : tag p (.cons co .nil) σ H fun vs H1 => ∃ x, vs = [x] ∧ ∃ c key a C dx fs, (c, m, key) ∈ p.ct.mn ∧ x = .ref a ∧ H1 a = some (.ins C dx fs) ∧ ClsAt p.K c C ∧ fs.lookup m = none ∧ tag p es σ H1 fun vs H2 => spT X.K X.mg (p.B key) (x :: vs) H2 Q (WE p.W σ) := by
    refine ⟨F, io, e, st, s, h.of_bind.mono (fun as e' st' k vs H' ⟨F', io', y, s', q⟩ => ?_) fun _ _ _ x => x⟩
    match as, k, q with
    | [], k, q => exact k.elim
    | _ :: _ :: _, k, q => exact k.elim
    | [a], k, q =>
      obtain ⟨x, rfl, hx⟩ := q.one
      refine ⟨x, rfl, ?_⟩
      simp only [] at k
      split at k
      · rename_i key hkey
        unfold metK at hkey
        split at hkey
        · rename_i c gs hobj
          split at hkey
          · cases hkey
          · rename_i hno
            simp only [Option.bind_eq_some_iff] at hobj
            obtain ⟨d0, hr0, hd0⟩ := hobj
            have hro := s'.ro (as := [a]) (vs := [x]) ⟨hx, trivial⟩ (rd_one hr0)
            have hro := RO.der s'.cel hro.1 hd0
            obtain ⟨ax, C, dx, fs, rfl, h1, h2, h3⟩ := hro.obj
            have hlk : fs.lookup m = none := by
              rcases h3.look (f := m) with ⟨_, q2⟩ | ⟨d', v, q1, _, _⟩
              · exact q2
              · rw [q1] at hno; simp at hno
            refine ⟨c, key, ax, C, dx, fs, hcs _ (lookup_mem hkey), rfl, h1, h2, hlk, F', io', e', st', s', k.of_bind.mono (fun as e2 st2 k vs H2 ⟨F2, io2, y2, s2, q2⟩ => ?_) fun _ _ _ x => XW.ext y x⟩
            have qa : ArL p.K H2 F2 io2 σ (.ref ax :: vs) (a :: as) := ⟨hx.ext y2, q2⟩
            split at k
            · rename_i ds hds
              obtain ⟨F3, y3, s3, r⟩ := s2.fz qa hds
              rw [S.K, S.mg]
              split at k
              · split at k
                · rename_i hn
                  refine ⟨F3, [], ds, [], s3.cel.pure, r.nol [] hn, ?_⟩
                  unfold callP at k
                  split at k
                  · rename_i d w st4 hB
                    try rw [hB]
                    intro v H4 po
                    split at k
                    · rename_i ht
                      exact k v H4 (PoE.ext (y.trans y2) (s2.callT ht po))
                    · split at k
                      · rename_i hn2
                        exact k v H4 (PoE.ext ((y.trans y2).trans y3) (s3.callN hn2 po))
                      · split at k
                        · rename_i d' hr
                          exact k v H4 (PoE.ext ((y.trans y2).trans y3) (s3.callV hr po))
                        · exact k.elim
                  · rename_i xx st4 hB
                    try rw [hB]
                    intro cls dd H4 ⟨F4, io4, x4, c4, xr⟩
                    split at k
                    · rename_i ha
                      have gr : ∀ a u, H2 a = some u → H4 a = some u := fun a u q => x4.frm a u q (by simp)
                      exact k cls dd H4 ⟨F2, io2, (y.trans y2).trans (ext_grow gr), s2.grow gr, xr.atoms ha fun a h => x4.ff a (y3.ff a h)⟩
                    · exact k.elim
                  · exact k.elim
                · exact k.elim
              · refine ⟨F3, io2, ds, st2, s3.cel, r, ?_⟩
                unfold callS at k
                split at k
                · rename_i d w st4 hB
                  try rw [hB]
                  intro v H4 po
                  exact k v H4 (PoE.ext ((y.trans y2).trans y3) (s3.callR po))
                · rename_i xx st4 hB
                  try rw [hB]
                  intro cls dd H4 ⟨F4, io4, x4, c4, xr⟩
                  exact k cls dd H4 ⟨F4, io4, ((y.trans y2).trans y3).trans (x4.ext s3.cel), s3.call x4 c4, xr⟩
                · exact k.elim
            · exact k.elim
        · cases hkey
      · exact k.elim
  refine (tag1 T).mono fun x H1 ⟨x', e1, q⟩ => ?_
  cases e1
  exact q
/-- o.f = e -/
theorem setF_ok {cs : List Str} {f : Str} {x d : D} {r x' : D} {u : HO} {v : V} {D' : Hp → Prop} {a : Addr} (S : Sok p X) (hcs : ∀ c ∈ cs, (c, f) ∈ p.ct.an) (hf : ((setFd cs f x d).map fun x' => (D.none, x')) = some (r, x')) (h2 : HoR p.K H F io u x) (hv : Rep p.K H F io v d) (ha : H a = some u)
    (q : ∀ u', HoR p.K H F io u' x' → D' (upd H a u')) : ∃ C dx fs, H a = some (.ins C dx fs) ∧ Cls X.K C ∧ NoAttr X.K C f ∧ fs.length < 1000 ∧ D' (upd H a (.ins C dx (putF f v fs))) := by
  simp only [Option.map_eq_some_iff] at hf
  obtain ⟨y, hy, e⟩ := hf
  cases e
  unfold setFd at hy
  split at hy
  · rename_i c gs
    split at hy
    · rename_i hc
      cases hy
      cases h2 with
      | @obj C dx _ fs _ k r =>
        obtain ⟨C', g1, g2, g3⟩ := S.att c f (hcs c (List.contains_iff_mem.mp hc.1))
        rw [S.K] at g1
        obtain rfl := k.eq g1
        exact ⟨C, dx, fs, ha, g2, g3, by rw [r.length]; exact hc.2, q _ (.obj k (r.put hv))⟩
    · cases hy
  · cases hy
theorem s_sav {n : Nat} {x f : Str} {cs : List Str} {xp apos : Pos} (S : Sok p X) (hN : X.N[n]? = some x) (hvis : Vis X.env.scope x) (hd : (x == ("__debug__" : Str)) = false) (hcd : (x == ("__classdict__" : Str)) = false) (h : EOK X p a c) (hcs : ∀ c ∈ cs, (c, f) ∈ p.ct.an)
    (hs : swapsWith a (some (.Attribute (.Name x xp) f apos)) pos.line X.env = pure false) : PS X (.Assign [.Attribute (.Name x xp) f apos] a pos) (tst p (.sav n cs f c)) := by
  refine PS.imp (ps_fld (pe_var hN hvis hd hcd) h.pe hs) fun D σ H ⟨F, io, e, st, s, k⟩ => ?_
  rw [xS] at k
  refine ⟨F, io, e, st, s, k.of_bind.mono (fun r e' st' k v H' po => ?_) fun _ _ _ x => x.xw⟩
  obtain ⟨F1, io1, y, s1, hr⟩ := po.frz
  split at k
  · rename_i hdf
    obtain ⟨vo, hσ⟩ := isDef_slot s1 hdf
    obtain ⟨a, u, x, r', x', rfl, g1, g2, hf, g4⟩ := chgS_po s1 hσ k.of_bind
    obtain ⟨C, dx, fs, q1, q2, q3, q4, q5⟩ := setF_ok (D' := fun H => D.nx σ H) S hcs hf g2 hr g1 fun u' g6 => by
      obtain ⟨e2, st2, k, y3, s3⟩ := g4 _ g6
      exact k σ _ ⟨F1, io1, y.trans y3, s3⟩
    exact ⟨.ref a, hσ, a, C, dx, fs, rfl, q1, q2, q3, q4, q5⟩
  · exact k.elim
theorem s_sao {f : Str} {cs : List Str} {apos : Pos} {co : E} (S : Sok p X) (ho : EOK X p o co) (h : EOK X p a c) (hcs : ∀ c ∈ cs, (c, f) ∈ p.ct.an)
    (hs : swapsWith a (some (.Attribute o f apos)) pos.line X.env = pure false) : PS X (.Assign [.Attribute o f apos] a pos) (tst p (.sao co cs f c)) := by
  refine PS.imp (ps_fld ho.pe h.pe hs) fun D σ H ⟨F, io, e, st, s, k⟩ => ?_
  rw [xS] at k
  refine ⟨F, io, e, st, s, k.of_bind.mono (fun r e' st' k v H' po => ?_) fun _ _ _ x => x.xw⟩
  obtain ⟨F1, io1, y, s1, hr⟩ := po.frz
  refine ⟨F1, io1, e', st', s1, k.of_bind.mono (fun oo e2 st2 k vo H2 po => ?_) fun _ _ _ x => (XS.ext y x).xw⟩
  obtain ⟨F2, io2, y2, s2, hov⟩ := po.frz
  obtain ⟨a, u, x, r', x', rfl, g1, g2, hf, g4⟩ := chgO_po s2 hov k.of_bind
  obtain ⟨C, dx, fs, q1, q2, q3, q4, q5⟩ := setF_ok (D' := fun H => D.nx σ H) S hcs hf g2 (hr.ext y2) g1 fun u' g6 => by
    obtain ⟨e3, st3, k, y3, s3⟩ := g4 _ g6
    exact k σ _ ⟨F2, io2, (y.trans y2).trans y3, s3⟩
  exact ⟨a, C, dx, fs, rfl, q1, q2, q3, q4, q5⟩
end
end Pv
namespace Pv
open PySem PySem.Spec PyProof.Rows L2
section
variable {p : Px} {X : Cx} {F F' : Zn} {io io' : List Addr} {H H' : Hp} {e : En} {st : Sto} {σ : L2.St} {a b o : Expr} {l : List Expr} {pos : Pos} {c : E} {es : Es}
/-- isinstance(e, C) -/
theorem e_isc {cl : Str} {pp cp : Pos} (S : Sok p X) (h : EsOK X p es [o]) (hg : Gl X "isinstance") (hgc : Gl X cl) (hc : cl ∈ p.ct.xo) (hdb : (cl == ("__debug__" : Str)) = false) : PE X (.Call (.Name "isinstance" pp) [o, .Name cl cp] [] pos) (tev p (.isc cl es)) := by
  obtain ⟨C, hm, hC, I⟩ := S.exk.xo cl hc
  have hcl := pe_glob (X := X) (pos := cp) (v := V.ref C) hgc hm rfl hdb
  have hb : X.mg "isinstance" = none := S.blt _ (by simp [bltAll])
  cases h with
  | cons h1 h2 =>
    cases h2
    refine PE.imp (pe_callB call_isi hg hb (by decide +kernel) (pa_cons h1.par (pa_cons hcl pa_nil rfl) (h1.ns _)) (by decide) (by decide) (h1.ns _) (by rfl)) fun σ H Q ⟨F, io, e, st, s, k⟩ => ?_
    rw [ev] at k
    refine (tag1 (op_tag s k)).mono fun x H1 q => ?_
    obtain ⟨F2, io2, ds, r, hr, hg2, k2⟩ := q
    unfold iscO at hg2
    split at hg2 <;> try cases hg2
    rename_i c gs
    obtain ⟨r1, _⟩ := hr
    split at hg2 <;> try cases hg2
    rename_i hcc
    obtain ⟨a, C', dx, fs, rfl, h1', h2', h3'⟩ := r1.obj
    rw [← S.K, hcc] at h2'
    have e3 : C' = C := h2'.eq hC
    rw [e3] at h1'
    exact ⟨_, _, _, _, true, rfl, .own C, .base (.ins h1' I.cl I.ha I.hn I.htk I.hm), I.me, k2 _ H1 (.val (.bl _))⟩
theorem maxOf_mxI : ∀ (ys : List Int) (y : Int), PySem.W.maxOf y ys = mxI y ys := fun ys y => by
  unfold PySem.W.maxOf mxI
  congr 1
  funext a b
  show (if decide (a < b) = true then b else a) = _
  by_cases h : a < b
  · simp [h]
  · simp [h]
theorem reads_ints {h : Heap} : ∀ {ns : List Int} {its : List Value}, Vals (ns.map V.int) its → PySem.ReadsAll h its (ns.map PySem.W.Datum.toD) []
  | [], _, r => by cases r; exact .nil
  | n :: ns, _, r => by
    cases r with
    | cons r t =>
      obtain ⟨tk, rfl⟩ := r
      exact .cons (as := []) (bs := []) (.int n tk) (reads_ints t)
theorem ints_at : ∀ {ns : List Int} {its : List Value} {i : Nat} {v : Value}, Vals (ns.map V.int) its → its[i]? = some v → ∃ n t, v = .int n t
  | [], _, i, v, r, h => by cases r; simp at h
  | n :: ns, _, 0, v, r, h => by
    cases r with
    | cons r t => obtain ⟨tk, rfl⟩ := r; cases h; exact ⟨_, _, rfl⟩
  | n :: ns, _, i + 1, v, r, h => by
    cases r with
    | cons r t => exact ints_at t (by simpa using h)
def mxN (d : Int) : List Int → Int
  | [] => d
  | i :: r => mxI i r
theorem call_maxd (hc : X.calm = true) (hu : X.A.units + 65 < cLine) {pins : List (Addr × Obj)} {s : Shared} {σ : L2.St} {H : Hp} {a : Addr} {ns : List Int} {d : Int} {td : Tok} {Q : VK} (I : Inv X pins σ H s) (hq : SqT X.K H a (ns.map V.int)) (q : Q (.int (mxN d ns)) H) :
    wpAny (model X.prog X.w) X.A (call (.builtin "max") [.ref a] [(Str.ofString "default", .int d td)]) (EP X pins σ Q) X.xe s := by
  obtain ⟨its, rv, pl, hz⟩ := I.tuple hq
  have hd : PySem.W.Datum.depth Int ≤ 1 := by decide
  refine PySem.W.max_tuple_datum_default (α := Int) (xs := ns) (I.ok.hd hc) pl ⟨[], by simpa using reads_ints rv⟩ (by omega) (fun e h' tk hk => ?_) fun y ys i v h' tk e hi hv hk => ?_
  · subst e
    exact ⟨.int d, H, I.kept hk, ⟨_, rfl⟩, q⟩
  · subst e
    obtain ⟨n, t, rfl⟩ := ints_at rv (by simpa using hi)
    obtain ⟨as, rd⟩ := hv
    have : n = PySem.W.maxOf y ys := by
      have rd : Reads h' (.int n t) (.int (PySem.W.maxOf y ys)) as := rd
      cases rd; rfl
    exact ⟨.int n, H, I.kept hk, ⟨_, rfl⟩, by rw [this, maxOf_mxI]; exact q⟩
/-- max(e, default=d) -/
theorem e_mxd {d : Int} {pp cp kp : Pos} {j : Nat} (S : Sok p X) (hq : p.hot = false) (h : EsOK X p es [o]) (hg : Gl X "max") : PE X (.Call (.Name "max" pp) [o] [⟨some "default", .Constant (.int d) j cp, kp⟩] pos) (tev p (.mxd d es)) := by
  have hb : X.mg "max" = none := S.blt _ (by simp [bltAll])
  cases h with
  | @cons c1 _ _ _ h1 h2 =>
    cases h2
    have pa : PA X [o] (tCons (tar p c1) tNil) := pa_cons h1.par pa_nil (h1.ns _)
    have pk : PK X [⟨some "default", .Constant (.int d) j cp, kp⟩] (tCons (tC (.int d)) tNil) := pk_cons pe_int pk_nil
    have hs := h1.ns []
    refine PE.imp (t := fun σ H Q => tCons (tar p c1) tNil σ H fun vs H1 => tCons (tC (.int d)) tNil σ H1 fun zs H2 => ∃ a ns, vs = [V.ref a] ∧ zs = [V.int d] ∧ SqT X.K H2 a (ns.map V.int) ∧ Q (.int (mxN d ns)) H2) ⟨fun pins s σ H Q I h => ?_⟩ fun σ H Q ⟨F, io, e, st, s, k⟩ => ?_
    · refine wpAny_Call_Name_kw (ld_blt I hg hb (show bootBuiltins "max" = some (.builtin "max") by decide +kernel) ?_ (by decide) (by decide))
      refine PyProof.Rows.callWith_kw (thn (pa.run pos pins s σ H _ I h) fun us s1 ⟨vs, H1, I1, r1, q1⟩ => thn (pk.run pos pins s1 σ H1 _ I1 q1) fun ws s2 ⟨zs, H2, I2, r2, a, ns, e1, e2, hq, q2⟩ => ?_) (by rw [hs]; rfl) (by rw [hs]; rfl) (by rfl) (by rfl)
      subst e1 e2
      rw [Vals.ref1 r1]
      cases r2 with
      | cons r t =>
        cases t
        obtain ⟨td, rfl⟩ := r
        exact call_maxd (S.calm ‹_›) S.hu I2 hq q2
    · rw [ev] at k
      refine (tag1 (op_tag s k)).mono fun x H1 q => ?_
      obtain ⟨F2, io2, ds, r, hr, hg, k⟩ := q
      unfold mxdO at hg
      split at hg <;> try cases hg
      rename_i xs
      simp only [Option.map_eq_some_iff] at hg
      obtain ⟨is, hi, rfl⟩ := hg
      obtain ⟨v, e1, hd⟩ := hr.one
      cases e1
      obtain ⟨a, vs, rfl, ha, ra⟩ := hd.tup
      have e2 := ints_rep hi ra
      subst e2
      show ∃ (a' : Addr) (ns : List Int), [V.ref a] = [V.ref a'] ∧ [V.int d] = [V.int d] ∧ SqT X.K H1 a' (ns.map V.int) ∧ Q (.int (mxN d ns)) H1
      refine ⟨a, is, rfl, rfl, S.K ▸ ha, ?_⟩
      cases is with
      | nil => exact k _ _ (.val (.int _))
      | cons i r => exact k _ _ (.val (.int _))
/-- C() -/
theorem pmk_own0 {C : Addr} {bmB : List Value} {B newId initId : String} {x : Str} {pp : Pos} (F : ExcBaseFacts B newId initId bmB) (q : PySem.W.excIn X.K C bmB newId = true) (gC : X.mg x = some (.ref C)) (kC : PySem.W.keepIn X.K (.ref C) = true) (r : Raises X (.ref C)) (hg : Gl X x)
    (hdb : (x == ("__debug__" : Str)) = false) : PMk X (.Call (.Name x pp) [] [] pos) (fun _ H Q => Q (.ref C) none H) := by
  intro pins s σ H Q I h
  refine wpAny_Call_Name_kw (ld_glob I hg gC ?_ hdb)
  refine PySem.W.callWith_K0 I.kIn kC ?_
  obtain ⟨bm, N, nm, qn, bs, hdct, sn, sub, ab, col, dd, k0, k1, k2, k3, k5, mN, hC, hN, hni, T⟩ := exc_obj I.kIn q
  refine wpAny_call_exc_subT F T hC hN hni (fun h' e hm => ?_) (by show 0 ≤ sizeLine; exact Nat.zero_le _)
  exact mk_of I hm r h (I.hok.gone hm.new)
/-- raise C() -/
theorem s_rse0 {c : Str} {xp rp : Pos} (S : Sok p X) (hq : p.hot = false) (hxz : c ∈ p.ct.xz) (hg : Gl X c) (hdb : (c == ("__debug__" : Str)) = false) : PS X (.Raise (some (.Call (.Name c xp) [] [] pos)) none rp) (tst p (.rse c [] .nil)) := by
  obtain ⟨C, hm, q1, q2, q3, q4⟩ := S.exk.xz c hxz
  refine PS.imp (ps_raise (S.calm hq) S.tk (pmk_own0 PySem.F.excBase_ValueError q1 hm q2 (raises_own q3 q4) hg hdb)) fun D σ H ⟨F, io, e, st, s, k⟩ => ?_
  rw [xS, ag] at k
  have k : XS p F io H ⟨c, []⟩ e st := k
  exact k σ _ _ H ⟨F, io, .refl .., s, C, none, [], by rw [← S.mg]; exact hm, rfl, rfl, (fun b hb => by cases hb), rfl, .nil, fun _ => rfl⟩
end
end Pv
namespace Pv
open PySem PySem.Spec PyProof.Rows L2
/-! ## properties, sums of instances -/
section
variable {p : Px} {X : Cx} {F F' : Zn} {io io' : List Addr} {H H' : Hp} {e : En} {st : Sto} {σ : L2.St} {a b o : Expr} {l : List Expr} {pos : Pos} {c : E} {es : Es}
theorem passes_no : Passes (L2.CX X.prog X.w) X.nox (fun _ _ _ => False) := fun pins σ H s e s' _ h => by
  obtain ⟨_, _, _, _, _, _, _, _, _, _, _, _, z⟩ := h
  exact z.elim
theorem pe_propD {m : Str} {ta : TE} (S : Sok p X) (he : PE X o ta) (hab : attributeBase o m X.env (eval o X.env) = eval o X.env) :
    PE X (.Attribute o m pos) (fun σ H Q => ta σ H fun x H1 => ∃ c key ax C dx fs, (c, m, key) ∈ p.ct.pn ∧ x = .ref ax ∧ H1 ax = some (.ins C dx fs) ∧ ClsAt p.K c C ∧ spT X.K X.mg (p.B key) [.ref ax] H1 Q (fun _ _ _ => False)) := by
  refine ⟨fun pins s σ H Q I h => ?_⟩
  refine attr_of hab (thn (he.run pins s σ H _ I h) fun u s1 ⟨x, H1, I1, rx, c, key, ax, C, dx, fs, hm, ex, ea, hC, q⟩ => ?_)
  subst ex
  obtain rfl : u = Value.ref ax := rx
  obtain ⟨C', q0, g, fd, ps, kk, g1, g2, g3, Fn, hr, hb⟩ := S.prp c m key hm
  rw [S.K] at g1
  obtain rfl := hC.eq g1
  exact getprop_ok (dvs := []) (ds := []) I1 ea g2 g3 Fn hr hb .nil passes_no q
theorem e_prp {m : Str} {cs : List (Str × Str)} (S : Sok p X) (h : EsOK X p es [o]) (hcs : ∀ c ∈ cs, (c.1, m, c.2) ∈ p.ct.pn) (hab : attributeBase o m X.env (eval o X.env) = eval o X.env) : PE X (.Attribute o m pos) (tev p (.prp cs m es)) := by
  obtain ⟨co, rfl, hco⟩ := h.one
  refine PE.imp (pe_propD S hco.par hab) fun σ H Q ⟨F, io, e, st, s, h⟩ => ?_
  rw [ev] at h
  have T : tag p (.cons co .nil) σ H fun vs H1 => ∃ x, vs = [x] ∧ ∃ c key ax C dx fs, (c, m, key) ∈ p.ct.pn ∧ x = .ref ax ∧ H1 ax = some (.ins C dx fs) ∧ ClsAt p.K c C ∧ spT X.K X.mg (p.B key) [.ref ax] H1 Q (fun _ _ _ => False) := by
    refine ⟨F, io, e, st, s, h.of_bind.mono (fun as e' st' k vs H' ⟨F', io', y, s', q⟩ => ?_) fun _ _ _ x => x⟩
    split at k <;> try exact k.elim
    rename_i x hds
    split at k <;> try exact k.elim
    rename_i key hkey
    split at k <;> try exact k.elim
    rename_i hn
    obtain ⟨F3, y3, s3, r⟩ := s'.fz q hds
    have rn := r.nol [] hn
    unfold metK at hkey
    split at hkey <;> try cases hkey
    rename_i c gs hobj
    cases hobj
    split at hkey <;> try cases hkey
    cases r with
    | @cons v vs' _ _ r1 r2 =>
      cases r2
      obtain ⟨ax, C, dx, fs, rfl, h1, h2, h3⟩ := (RO.obj (.inl r1))
      refine ⟨.ref ax, rfl, c, key, ax, C, dx, fs, hcs _ (lookup_mem hkey), rfl, h1, h2, ?_⟩
      rw [S.K, S.mg]
      refine ⟨F3, [], [.obj c gs], [], s3.cel.pure, rn, ?_⟩
      unfold callP at k
      split at k
      · rename_i d w st4 hB
        try rw [hB]
        intro v H4 po
        split at k
        · rename_i ht
          exact k v H4 (PoE.ext y (s'.callT ht po))
        · split at k
          · rename_i hn2
            exact k v H4 (PoE.ext (y.trans y3) (s3.callN hn2 po))
          · split at k
            · rename_i d' hr
              exact k v H4 (PoE.ext (y.trans y3) (s3.callV hr po))
            · exact k.elim
      · rename_i xx st4 hB
        split at k <;> exact k.elim
      · exact k.elim
  refine (tag1 T).mono fun x H1 ⟨x', e1, q⟩ => ?_
  cases e1
  exact q
theorem sameC_eq {c : Str} {gs : List (Str × D)} {y : D} (h : sameC (.obj c gs) y = true) : ∃ gs', y = .obj c gs' := by
  cases y <;> simp only [sameC] at h <;> try cases h
  simp only [decide_eq_true_eq] at h
  exact ⟨_, by rw [h]⟩
theorem pe_addD (S : Sok p X) {ta tb : TE} (ha : PE X a ta) (hb : PE X b tb) :
    PE X (.BinOp a .Add b pos) (fun σ H Q => ta σ H fun x H1 => tb σ H1 fun y H2 => ∃ c key ax bx C dx fs dy gs, (c, key) ∈ p.ct.on ∧ x = .ref ax ∧ y = .ref bx ∧ H2 ax = some (.ins C dx fs) ∧ H2 bx = some (.ins C dy gs) ∧ ClsAt p.K c C ∧
      spT X.K X.mg (p.B key) [.ref ax, .ref bx] H2 Q (WE p.W σ)) := by
  refine ⟨fun pins s σ H Q I h => ?_⟩
  refine wpAny_BinOp (thn (ha.run pins s σ H _ I h) fun u s1 ⟨x, H1, I1, rx, h1⟩ => ?_)
  refine thn (hb.run pins s1 σ H1 _ I1 h1) fun v s2 ⟨y, H2, I2, ry, c, key, ax, bx, C, dx, fs, dy, gs, hm, ex, ey, ea, eb, hC, q⟩ => ?_
  subst ex ey
  have hst : ∃ ax', u = Value.ref ax' := ⟨ax, rx⟩
  obtain rfl : u = Value.ref ax := rx
  obtain rfl : v = Value.ref bx := ry
  obtain ⟨C', f, fd, ps, kk, g1, g2, g3, g4, Fn, hr, hbd⟩ := S.opn c key hm
  rw [S.K] at g1
  obtain rfl := hC.eq g1
  obtain ⟨mA, O, _, _, _, _⟩ := ins_get I2.hok ea
  obtain ⟨od, J, _⟩ := O.look
  obtain ⟨mB, O', _, _, _, _⟩ := ins_get I2.hok eb
  obtain ⟨od', J', _⟩ := O'.look
  obtain ⟨m, hF⟩ := I2.fr
  refine PySem.W.binop_K hF I2.ok.mod.kin J J'.type g2 g3 g4 ?_
  refine wpAny_mono (run_fnS (us := [.ref ax, .ref bx]) (vs := [.ref ax, .ref bx]) Fn hr hbd (passAt S.tk σ) I2 (.cons rfl (.cons rfl .nil)) q) (fun w s' z => ?_) fun _ _ x => x
  obtain ⟨z', H', I', rz, qz⟩ := z
  exact SlX.cmpback rz ⟨z', H', I', rz, qz⟩
theorem e_opm {cs : List (Str × Str)} (S : Sok p X) (h : EsOK X p es [a, b]) (hcs : ∀ c ∈ cs, c ∈ p.ct.on) : PE X (.BinOp a .Add b pos) (tev p (.opm cs es)) := by
  cases h with
  | @cons ca r1 _ _ h1 h' =>
  cases h' with
  | @cons cb r2 _ _ h2 h'' =>
  cases h''
  refine PE.imp (pe_addD S h1.par h2.par) fun σ H Q ⟨F, io, e, st, s, h⟩ => ?_
  rw [ev] at h
  have T : tag p (.cons ca (.cons cb .nil)) σ H fun vs H1 => ∃ x y, vs = [x, y] ∧ ∃ c key ax bx C dx fs dy gs, (c, key) ∈ p.ct.on ∧ x = .ref ax ∧ y = .ref bx ∧ H1 ax = some (.ins C dx fs) ∧ H1 bx = some (.ins C dy gs) ∧ ClsAt p.K c C ∧
      spT X.K X.mg (p.B key) [.ref ax, .ref bx] H1 Q (WE p.W σ) := by
    refine ⟨F, io, e, st, s, h.of_bind.mono (fun as e' st' k vs H' ⟨F', io', y, s', q⟩ => ?_) fun _ _ _ x => x⟩
    split at k <;> try exact k.elim
    rename_i x x' hds
    split at k <;> try exact k.elim
    rename_i key hkey
    split at k <;> try exact k.elim
    rename_i hsc
    split at k <;> try exact k.elim
    rename_i hn
    obtain ⟨F3, y3, s3, r⟩ := s'.fz q hds
    have rn := r.nol [] hn
    unfold metK at hkey
    split at hkey <;> try cases hkey
    rename_i c gs hobj
    cases hobj
    split at hkey <;> try cases hkey
    obtain ⟨gs', rfl⟩ := sameC_eq hsc
    cases r with
    | @cons v vs' _ _ r1 r2 =>
      cases r2 with
      | @cons v2 vs2 _ _ r2 r3 =>
      cases r3
      obtain ⟨ax, C, dx, fs, rfl, h1, h2, h3⟩ := (RO.obj (.inl r1))
      obtain ⟨bx, C2, dy, fs2, rfl, h1', h2', h3'⟩ := (RO.obj (.inl r2))
      obtain rfl := h2.eq h2'
      refine ⟨.ref ax, .ref bx, rfl, _, key, ax, bx, C, dx, fs, dy, fs2, hcs _ (lookup_mem hkey), rfl, rfl, h1, h1', h2, ?_⟩
      rw [S.K, S.mg]
      refine ⟨F3, [], _, [], s3.cel.pure, rn, ?_⟩
      unfold callP at k
      split at k
      · rename_i d w st4 hB
        try rw [hB]
        intro v H4 po
        split at k
        · rename_i ht
          exact k v H4 (PoE.ext y (s'.callT ht po))
        · split at k
          · rename_i hn2
            exact k v H4 (PoE.ext (y.trans y3) (s3.callN hn2 po))
          · split at k
            · rename_i d' hr
              exact k v H4 (PoE.ext (y.trans y3) (s3.callV hr po))
            · exact k.elim
      · rename_i xx st4 hB
        try rw [hB]
        intro cls dd H4 ⟨F4, io4, x4, c4, xr⟩
        split at k
        · rename_i ha
          have gr : ∀ a u, H' a = some u → H4 a = some u := fun a u q => x4.frm a u q (by simp)
          exact k cls dd H4 ⟨F', io', y.trans (ext_grow gr), s'.grow gr, xr.atoms ha fun a h => x4.ff a (y3.ff a h)⟩
        · exact k.elim
      · exact k.elim
  refine (tag2 T).mono fun x H1 q => q.mono fun y H2 ⟨x', y', e1, q⟩ => ?_
  cases e1
  exact q
end
end Pv
namespace Pv
open PySem PySem.Spec PyProof.Rows L2
/-! ## errors that are caught -/
theorem CvOk.fun {mg : Str → Option Value} {t : Str} {c d : Value} (h : CvOk mg t c) (h' : CvOk mg t d) : c = d := by
  rcases h with ⟨h1, _⟩ | ⟨h1, _, h2, _⟩ <;> rcases h' with ⟨g1, _⟩ | ⟨g1, _, g2, _⟩
  · exact Option.some.inj (h1.symm.trans g1)
  · rw [h1] at g1; cases g1
  · rw [h1] at g1; cases g1
  · exact Option.some.inj (h2.symm.trans g2)
section
variable {p : Px} {X : Cx} {F F' : Zn} {io io' : List Addr} {H H' : Hp} {e : En} {st : Sto} {σ : L2.St} {pos : Pos}
/-- a class's name -/
theorem pe_cv {t : Str} {cv : Value} {q : Pos} (h : CvOk X.mg t cv) (hg : Gl X t) (hd : (t == ("__debug__" : Str)) = false) : ∃ v, RelV v cv ∧ (∀ u, RelV v u → u = cv) ∧ PE X (.Name t q) (tC v) := by
  rcases h with ⟨h1, a, rfl⟩ | ⟨h1, hn, h2, n, rfl⟩
  · exact ⟨.ref a, rfl, fun _ r => r, pe_glob hg h1 rfl hd⟩
  · exact ⟨.ty n, rfl, fun _ r => r, pe_bltn hg h1 h2 rfl hn hd⟩
/-- classes' names -/
inductive NmsOk (X : Cx) : List Str → List Expr → Prop
  | nil : NmsOk X [] []
  | cons {t : Str} {q : Pos} {ts : List Str} {l : List Expr} : Gl X t → (t == ("__debug__" : Str)) = false → NmsOk X ts l → NmsOk X (t :: ts) (.Name t q :: l)
theorem pa_cvs : ∀ {cs : List Str} {cvs : List Value} {l : List Expr}, CvsOk X.mg cs cvs → NmsOk X cs l → ∃ vs, vs.length = cs.length ∧ (∀ us, Vals vs us → us = cvs) ∧ PA X l (fun _ H Q => Q vs H)
  | _, _, _, .nil, .nil => ⟨[], rfl, fun us r => by cases r; rfl, ⟨fun _ _ _ _ H Q I h => Calls.spliced_nil ⟨[], H, I, .nil, h⟩⟩⟩
  | _, _, _, .cons h hs, .cons g d gs => by
    obtain ⟨v, r1, r2, r3⟩ := pe_cv h g d
    obtain ⟨vs, q1, q2, q3⟩ := pa_cvs hs gs
    refine ⟨v :: vs, by simp [q1], fun us r => ?_, PA.imp (pa_cons r3 q3 rfl) fun _ _ _ q => q⟩
    cases r with
    | cons a b => rw [r2 _ a, q2 _ b]
theorem kit1 {K : PySem.W.Frag} {t c : Value} {b : Bool} (h : PySem.W.kitAny K t [c] = some b) : PySem.W.kitOne K t c = some b := by
  unfold PySem.W.kitAny at h
  split at h
  · cases h; assumption
  · rename_i q
    have h : some false = some b := h
    cases h; exact q
  · cases h
/-- what the suite knows -/
theorem xc_know {i : Nat} {x : Xc} (S : Sok p X) (hq : p.hot = true) (s : SR p.K p.z F io e st σ H) (hx : e[i]? = some (.xc x)) :
    ∃ (X0 : Cx) (oe : Obj) (pn : List (Addr × Obj)) (q : Xat), X = X0.suite q.a ((q.a, oe) :: pn) ∧ q.x = x ∧ Zc (.ref q.C) q.dd oe ∧ (∃ vs, oe.data = .fields vs) ∧ X.mg x.c = some (.ref q.C) ∧ σ[i]? = some (some (.ref q.a)) ∧ (∀ b, q.dd = some b → H b = some (.xd q.fs)) ∧
      q.fs.map (·.1) = x.fs.map (·.1) ∧ (∀ K H F io, RepL K H F io (q.fs.map (·.2)) (x.fs.map (·.2))) ∧ (q.dd = none → q.fs = []) := by
  obtain ⟨X0, oe, pn, q, e1, hxa, hz, hf, hm, hfn, hrep, hnd⟩ := S.sui hq
  obtain ⟨a, ⟨C, dd, fs, h1, h2⟩, h4⟩ := s.xc i x hx
  rw [hxa] at h1
  cases h1
  exact ⟨X0, oe, pn, _, e1, rfl, hz, hf, by rw [S.mg]; exact hm, h4, fun b hb => s.frm b _ (h2 b hb).1 (h2 b hb).2, hfn, hrep, hnd⟩
theorem xis_split {ys ns : List Str} {x : Xc} {P : DB → En → Sto → Prop} {E : Xc → En → Sto → Prop} {cs : List Str} {xi : List (Str × List Str × Bool)} (hy : ∀ y ∈ ys, (y, cs, true) ∈ xi) (hn : ∀ y ∈ ns, (y, cs, false) ∈ xi)
    (k : Res (if ys.contains x.c then Pv.R.ok (D.bool true, false) e st else if ns.contains x.c then .ok (.bool false, false) e st else .no) P E) : ∃ b, (x.c, cs, b) ∈ xi ∧ P (.bool b, false) e st := by
  split at k
  · rename_i h; exact ⟨true, hy _ (List.contains_iff_mem.mp h), k⟩
  · split at k
    · rename_i h; exact ⟨false, hn _ (List.contains_iff_mem.mp h), k⟩
    · exact k.elim
theorem e_xis1 {i : Nat} {v c : Str} {ys ns : List Str} {p1 p2 p3 : Pos} (S : Sok p X) (hq : p.hot = true) (hN : X.N[i]? = some v) (hvis : Vis X.env.scope v) (hd : (v == ("__debug__" : Str)) = false) (hcd : (v == ("__classdict__" : Str)) = false)
    (hi : Gl X "isinstance") (hg : Gl X c) (hdc : (c == ("__debug__" : Str)) = false) (hy : ∀ y ∈ ys, (y, [c], true) ∈ p.ct.xi) (hn : ∀ y ∈ ns, (y, [c], false) ∈ p.ct.xi) :
    PE X (.Call (.Name "isinstance" p1) [.Name v p2, .Name c p3] [] pos) (tev p (.xis i false [c] ys ns)) := by
  refine ⟨fun pins s σ H Q I ⟨F, io, e, st, s', k⟩ => ?_⟩
  rw [ev] at k
  split at k <;> try exact k.elim
  rename_i x hx
  obtain ⟨b, hb, k⟩ := xis_split hy hn k
  obtain ⟨X0, oe, pn, q, rfl, e1, hz, hf, hm, h4, hdd, _⟩ := xc_know S hq s' hx
  obtain ⟨C', cvs, m1, EC, m2, m3⟩ := S.exk.xi _ _ _ hb
  rw [hm] at m1
  cases m1
  cases m2 with
  | cons cv r =>
    cases r
    obtain ⟨u, _, r2, r3⟩ := pe_cv (q := p3) cv hg hdc
    have pe := pe_callB (p := p1) (pos := pos) (call_isX EC hz hf) hi (S.blt _ (by simp [bltAll])) (by decide +kernel) (pa_cons (pe_var (pos := p2) hN hvis hd hcd) (pa_cons r3 pa_nil rfl) rfl) (by decide) (by decide) rfl rfl
    refine pe.run pins s σ H Q I ⟨.ref q.a, h4, u, _, b, rfl, r2, kit1 m3, fun dd e => ?_, k _ _ (NV.po s' (.val (.bl _)))⟩
    exact ⟨_, hdd dd e⟩
theorem e_xisT {i k0 : Nat} {v : Str} {cs ys ns : List Str} {l : List Expr} {p1 p2 p3 : Pos} (S : Sok p X) (hq : p.hot = true) (hN : X.N[i]? = some v) (hvis : Vis X.env.scope v) (hd : (v == ("__debug__" : Str)) = false) (hcd : (v == ("__classdict__" : Str)) = false)
    (hi : Gl X "isinstance") (hl : NmsOk X cs l) (hcs : cs.length ≤ 1000) (hy : ∀ y ∈ ys, (y, cs, true) ∈ p.ct.xi) (hn : ∀ y ∈ ns, (y, cs, false) ∈ p.ct.xi) :
    PE X (.Call (.Name "isinstance" p1) [.Name v p2, .Tuple l k0 p3] [] pos) (tev p (.xis i true cs ys ns)) := by
  refine ⟨fun pins s σ H Q I ⟨F, io, e, st, s', k⟩ => ?_⟩
  rw [ev] at k
  split at k <;> try exact k.elim
  rename_i x hx
  obtain ⟨b, hb, k⟩ := xis_split hy hn k
  obtain ⟨X0, oe, pn, q, rfl, e1, hz, hf, hm, h4, hdd, _⟩ := xc_know S hq s' hx
  obtain ⟨C', cvs, m1, EC, m2, m3⟩ := S.exk.xi _ _ _ hb
  rw [hm] at m1
  cases m1
  obtain ⟨vs, g1, g2, g3⟩ := pa_cvs m2 hl
  have pe := pe_callB (p := p1) (pos := pos) (call_isXs EC hz hf) hi (S.blt _ (by simp [bltAll])) (by decide +kernel) (pa_cons (pe_var (pos := p2) hN hvis hd hcd) (pa_cons (pe_tup (x1 := k0) (pos := p3) g3) pa_nil rfl) rfl) (by decide) (by decide) rfl rfl
  refine pe.run pins s σ H Q I ⟨.ref q.a, h4, Nat.le_of_lt (small1000 (by rw [g1]; exact hcs)), fun t ht => ⟨t, vs, cvs, b, rfl, .inl (.inl upd_same), g2, m3, fun dd e => ?_, k _ _ (PoE.ext (ext_new ht s'.cel.dom) (NV.po (s'.newObj ht) (.val (.bl _))))⟩⟩
  have hdd := hdd dd e
  exact ⟨_, by rw [upd_ne (fun z => by rw [z, ht] at hdd; cases hdd)]; exact hdd⟩
theorem xfs_get {K : PySem.W.Frag} {f : Str} {d : D} : ∀ {fs : List (Str × V)} {gs : List (Str × D)}, fs.map (·.1) = gs.map (·.1) → RepL K H F io (fs.map (·.2)) (gs.map (·.2)) → lookF gs f = some d → ∃ v, fs.lookup f = some v ∧ Rep K H F io v d
  | [], [], _, _, h => by cases h
  | [], _ :: _, e, _, _ => by cases e
  | _ :: _, [], e, _, _ => by cases e
  | (g, v) :: fs, (g', d') :: gs, e, r, h => by
    simp only [List.map_cons, List.cons.injEq] at e
    obtain ⟨rfl, e⟩ := e
    cases r with
    | cons r1 r2 =>
      unfold lookF at h
      split at h
      · rename_i hg
        cases h
        subst hg
        exact ⟨v, by simp [List.lookup], r1⟩
      · rename_i hg
        obtain ⟨w, h1, h2⟩ := xfs_get e r2 h
        refine ⟨w, ?_, h2⟩
        rw [List.lookup_cons, show (f == g) = false from by simpa using fun z => hg z.symm]
        exact h1
theorem e_xfl {i : Nat} {v n : Str} {cs : List Str} {p2 : Pos} (S : Sok p X) (hq : p.hot = true) (hN : X.N[i]? = some v) (hvis : Vis X.env.scope v) (hd : (v == ("__debug__" : Str)) = false) (hcd : (v == ("__classdict__" : Str)) = false)
    (hc : ∀ c ∈ cs, (c, n) ∈ p.ct.xf) : PE X (.Attribute (.Name v p2) n pos) (tev p (.xfl i cs n)) := by
  refine ⟨fun pins s σ H Q I ⟨F, io, e, st, s', k⟩ => ?_⟩
  rw [ev] at k
  split at k <;> try exact k.elim
  rename_i x hx
  split at k <;> try exact k.elim
  rename_i hcx
  split at k <;> try exact k.elim
  rename_i d hl
  obtain ⟨X0, oe, pn, q, rfl, e1, hz, hf, hm, h4, hdd, hnm, hrep, hnd⟩ := xc_know S hq s' hx
  obtain ⟨C', m1, T, hno⟩ := S.exk.xf _ _ (hc _ (List.contains_iff_mem.mp hcx))
  rw [hm] at m1
  cases m1
  obtain ⟨w, g1, g2⟩ := xfs_get hnm (hrep p.K H F io) hl
  cases hdq : q.dd with
  | none => rw [hnd hdq] at g1; cases g1
  | some dd => exact (pe_xf (pos := pos) T hno hz hf (pe_var (pos := p2) hN hvis hd hcd) rfl).run pins s σ H Q I ⟨.ref q.a, h4, rfl, rfl, dd, q.fs, w, hdq, hdd dd hdq, g1, k _ _ (NV.po s' (.val g2))⟩
end
end Pv
namespace Pv
open PySem PySem.Spec PyProof.Rows L2
/-! ## try: .. except C as n: .. -/
/-- what an except suite may make: nothing -/
def Ct.cold (ct : Ct) : Ct := { ct with cn := [], mn := [], xn := [], pn := [], on := [] }
/-- an except suite -/
abbrev Px.sui (p : Px) (z' : Zo) : Px := { p with z := z', W := fun _ _ _ _ => False, hot := true, dn := fun _ => false, ct := p.ct.cold }
/-- the entry, with the caught error -/
def zx (z : Zo) (q : Xat) : Zo := ⟨match q.dd with
  | some b => upd z.H0 b (.xd q.fs)
  | none => z.H0, z.i0, z.F0, some q⟩
/-- what is known of the caught error -/
structure XFit (p : Px) (q : Xat) : Prop where
  m : p.mg q.x.c = some (.ref q.C)
  nm : q.fs.map (·.1) = q.x.fs.map (·.1)
  rep : ∀ K H F io, RepL K H F io (q.fs.map (·.2)) (q.x.fs.map (·.2))
  nd : q.dd = none → q.fs = []
section
variable {p : Px} {X : Cx} {K : PySem.W.Frag} {z : Zo} {F F' : Zn} {io io' : List Addr} {H H' : Hp} {e : En} {st : Sto} {σ : L2.St} {pos : Pos}
theorem atom_repK {K' : PySem.W.Frag} {v : V} {d : Pv.D} (h : atomB d = true) (r : Rep K H F io v d) (H' : Hp) (F' : Zn) (io' : List Addr) : Rep K' H' F' io' v d := by
  cases d <;> simp [atomB] at h
  · cases r; exact .non
  · cases r; exact .bl _
  · cases r; exact .int _
  · cases r; exact .str _
theorem Ob.noxd {a : Addr} {d : Pv.D} {fs : List (Str × V)} (h : Ob K H F io a d) : H a ≠ some (.xd fs) := fun q => by
  obtain ⟨u, h1, h2⟩ := h
  rw [q] at h1
  cases h1
  cases h2
theorem Cel.noxd {a : Addr} {fs : List (Str × V)} (c : Cel K F io st H) (h : H a = some (.xd fs)) : a ∉ io := fun hm => by
  obtain ⟨n, hn, e⟩ := List.mem_iff_getElem.mp hm
  have h1 : io[n]? = some a := by rw [List.getElem?_eq_getElem hn, e]
  have hn2 : n < st.length := by rw [← c.len]; exact hn
  exact (c.cell n a st[n] h1 (List.getElem?_eq_getElem hn2)).noxd h
theorem unX_get {j : Nat} {sl : Sl} (h : (e.map unX)[j]? = some sl) : ∃ s, e[j]? = some s ∧ sl = unX s := by
  rw [List.getElem?_map, Option.map_eq_some_iff] at h
  obtain ⟨s, h1, h2⟩ := h
  exact ⟨s, h1, h2.symm⟩
theorem unX_fr {s : Sl} {d : Pv.D} (h : Sl.fr d = unX s) : s = .fr d := by cases s <;> simp [unX] at h; rw [h]
theorem unX_ow {s : Sl} {d : Pv.D} (h : Sl.ow d = unX s) : s = .ow d := by cases s <;> simp [unX] at h; rw [h]
theorem unX_xc {s : Sl} {x : Xc} (h : Sl.xc x = unX s) : False := by cases s <;> simp [unX] at h
/-- into the suite -/
theorem SR.inx (s : SR K z F io e st σ H) {q : Xat} (hd : ∀ b, q.dd = some b → H b = some (.xd q.fs) ∧ ¬ F b) : SR K (zx z q) F io (e.map unX) st σ H := by
  obtain ⟨qa, qx, qC, qd, qf⟩ := q
  cases qd with
  | none =>
    refine ⟨s.cel, by rw [List.length_map]; exact s.el, fun i d h => ?_, fun i d h => ?_, fun i j d d' a h h' => ?_, s.frm, s.pre, s.fnw, fun i x h => ?_⟩
    · obtain ⟨sl, h1, h2⟩ := unX_get h
      exact s.fr i d (by rw [h1, unX_fr h2])
    · obtain ⟨sl, h1, h2⟩ := unX_get h
      exact s.ow i d (by rw [h1, unX_ow h2])
    · obtain ⟨sl, h1, h2⟩ := unX_get h
      obtain ⟨sl', h1', h2'⟩ := unX_get h'
      exact s.sep i j d d' a (by rw [h1, unX_ow h2]) (by rw [h1', unX_ow h2'])
    · obtain ⟨sl, h1, h2⟩ := unX_get h
      exact (unX_xc h2).elim
  | some dd =>
    obtain ⟨hd, hF⟩ := hd dd rfl
    have hio := s.cel.noxd hd
    have ne : ∀ {b}, b ≠ dd → (zx z ⟨qa, qx, qC, some dd, qf⟩).H0 b = z.H0 b := fun h => upd_ne h
    refine ⟨s.cel, by rw [List.length_map]; exact s.el, fun i d h => ?_, fun i d h => ?_, fun i j d d' a h h' => ?_, fun b u h n => ?_, ?_, fun b hb => ?_, fun i x h => ?_⟩
    · obtain ⟨sl, h1, h2⟩ := unX_get h
      exact s.fr i d (by rw [h1, unX_fr h2])
    · obtain ⟨sl, h1, h2⟩ := unX_get h
      obtain ⟨a, g1, g2, g3, g4, g5⟩ := s.ow i d (by rw [h1, unX_ow h2])
      refine ⟨a, g1, g2, g3, g4, ?_⟩
      rw [ne (fun w => g2.noxd (by rw [w]; exact hd))]; exact g5
    · obtain ⟨sl, h1, h2⟩ := unX_get h
      obtain ⟨sl', h1', h2'⟩ := unX_get h'
      exact s.sep i j d d' a (by rw [h1, unX_ow h2]) (by rw [h1', unX_ow h2'])
    · by_cases hb : b = dd
      · subst hb
        have w : upd z.H0 b (.xd qf) b = some u := h
        rw [upd_same] at w; cases w; exact hd
      · rw [ne hb] at h; exact s.frm b u h n
    · obtain ⟨l, e1, e2⟩ := s.pre
      refine ⟨l, e1, fun b hb => ?_⟩
      rw [ne (fun w => hio (by rw [e1, ← w]; exact List.mem_append_right _ hb))]
      exact e2 b hb
    · rw [ne (fun w => hF (w ▸ hb))]; exact s.fnw b hb
    · obtain ⟨sl, h1, h2⟩ := unX_get h
      exact (unX_xc h2).elim
/-- the error bound to its name -/
theorem SR.putx (s : SR K z F io e st σ H) {i : Nat} {a : Addr} {x : Xc} (hx : XaOk z a x) (hi : i < e.length) : SR K z F io (e.set i (.xc x)) st (σ.set i (some (.ref a))) H := by
  have hi' : i < σ.length := by rw [← s.el]; exact hi
  have key : ∀ (j : Nat) (sl : Sl), (∀ y, sl ≠ .xc y) → (e.set i (.xc x))[j]? = some sl → j ≠ i ∧ e[j]? = some sl := fun j sl hn h => by
    by_cases hij : i = j
    · subst hij
      rw [List.getElem?_set_self hi] at h
      cases h; exact absurd rfl (hn _)
    · rw [List.getElem?_set_ne hij] at h
      exact ⟨fun q => hij q.symm, h⟩
  have sg : ∀ {j : Nat}, j ≠ i → (σ.set i (some (V.ref a)))[j]? = σ[j]? := fun h => List.getElem?_set_ne (fun q => h q.symm)
  refine ⟨s.cel, by rw [List.length_set, List.length_set]; exact s.el, fun j d h => ?_, fun j d h => ?_, fun j l d d' b h h' g g' => ?_, s.frm, s.pre, s.fnw, fun j y h => ?_⟩
  · obtain ⟨h1, h2⟩ := key j _ (by simp) h
    rw [sg h1]; exact s.fr j d h2
  · obtain ⟨h1, h2⟩ := key j _ (by simp) h
    rw [sg h1]; exact s.ow j d h2
  · obtain ⟨h1, h2⟩ := key j _ (by simp) h
    obtain ⟨h3, h4⟩ := key l _ (by simp) h'
    rw [sg h1] at g
    rw [sg h3] at g'
    exact s.sep j l d d' b h2 h4 g g'
  · by_cases hij : i = j
    · subst hij
      rw [List.getElem?_set_self hi] at h
      cases h
      exact ⟨a, hx, List.getElem?_set_self hi'⟩
    · rw [List.getElem?_set_ne hij] at h
      rw [List.getElem?_set_ne hij]
      exact s.xc j y h
/-- a name gone -/
theorem SR.gone (s : SR K z F io e st σ H) (i : Nat) : SR K z F io (e.set i .un) st (σ.set i none) H := by
  have key : ∀ (j : Nat) (sl : Sl), sl ≠ .un → (e.set i .un)[j]? = some sl → j ≠ i ∧ e[j]? = some sl := fun j sl hn h => by
    by_cases hij : i = j
    · subst hij
      rw [List.getElem?_set_self'] at h
      cases q : e[i]? with
      | none => rw [q] at h; cases h
      | some y => rw [q] at h; cases h; exact absurd rfl hn
    · rw [List.getElem?_set_ne hij] at h
      exact ⟨fun q => hij q.symm, h⟩
  have sg : ∀ {j : Nat}, j ≠ i → (σ.set i none)[j]? = σ[j]? := fun h => List.getElem?_set_ne (fun q => h q.symm)
  refine ⟨s.cel, by rw [List.length_set, List.length_set]; exact s.el, fun j d h => ?_, fun j d h => ?_, fun j l d d' b h h' g g' => ?_, s.frm, s.pre, s.fnw, fun j y h => ?_⟩
  · obtain ⟨h1, h2⟩ := key j _ (by simp) h
    rw [sg h1]; exact s.fr j d h2
  · obtain ⟨h1, h2⟩ := key j _ (by simp) h
    rw [sg h1]; exact s.ow j d h2
  · obtain ⟨h1, h2⟩ := key j _ (by simp) h
    obtain ⟨h3, h4⟩ := key l _ (by simp) h'
    rw [sg h1] at g
    rw [sg h3] at g'
    exact s.sep j l d d' b h2 h4 g g'
  · obtain ⟨h1, h2⟩ := key j _ (by simp) h
    rw [sg h1]; exact s.xc j y h2
/-- out of the suite -/
theorem SR.outx {q : Xat} (h0 : ∀ b, q.dd = some b → ∀ u, z.H0 b = some u → u = .xd q.fs) (s : SR K (zx z q) F io e st σ H) : SR K z F io (e.map unX) st σ H := by
  obtain ⟨qa, qx, qC, qd, qf⟩ := q
  cases qd with
  | none =>
    refine ⟨s.cel, by rw [List.length_map]; exact s.el, fun i d h => ?_, fun i d h => ?_, fun i j d d' a h h' => ?_, s.frm, s.pre, s.fnw, fun i x h => ?_⟩
    · obtain ⟨sl, h1, h2⟩ := unX_get h
      exact s.fr i d (by rw [h1, unX_fr h2])
    · obtain ⟨sl, h1, h2⟩ := unX_get h
      exact s.ow i d (by rw [h1, unX_ow h2])
    · obtain ⟨sl, h1, h2⟩ := unX_get h
      obtain ⟨sl', h1', h2'⟩ := unX_get h'
      exact s.sep i j d d' a (by rw [h1, unX_ow h2]) (by rw [h1', unX_ow h2'])
    · obtain ⟨sl, h1, h2⟩ := unX_get h
      exact (unX_xc h2).elim
  | some dd =>
    have h0 := h0 dd rfl
    have ne : ∀ {b}, b ≠ dd → (zx z ⟨qa, qx, qC, some dd, qf⟩).H0 b = z.H0 b := fun h => upd_ne h
    have at_ : (zx z ⟨qa, qx, qC, some dd, qf⟩).H0 dd = some (.xd qf) := upd_same
    have no : ∀ {b}, (zx z ⟨qa, qx, qC, some dd, qf⟩).H0 b = none → z.H0 b = none := fun {b} h => by
      have hne : b ≠ dd := fun w => by rw [w, at_] at h; cases h
      rw [← ne hne]; exact h
    refine ⟨s.cel, by rw [List.length_map]; exact s.el, fun i d h => ?_, fun i d h => ?_, fun i j d d' a h h' => ?_, fun b u h n => ?_, ?_, fun b hb => (s.fnw b hb).imp id no, fun i x h => ?_⟩
    · obtain ⟨sl, h1, h2⟩ := unX_get h
      exact s.fr i d (by rw [h1, unX_fr h2])
    · obtain ⟨sl, h1, h2⟩ := unX_get h
      obtain ⟨a, g1, g2, g3, g4, g5⟩ := s.ow i d (by rw [h1, unX_ow h2])
      exact ⟨a, g1, g2, g3, g4, no g5⟩
    · obtain ⟨sl, h1, h2⟩ := unX_get h
      obtain ⟨sl', h1', h2'⟩ := unX_get h'
      exact s.sep i j d d' a (by rw [h1, unX_ow h2]) (by rw [h1', unX_ow h2'])
    · by_cases hb : b = dd
      · subst hb
        rw [h0 u h]
        exact s.frm _ _ at_ n
      · exact s.frm b u (by rw [ne hb]; exact h) n
    · obtain ⟨l, e1, e2⟩ := s.pre
      exact ⟨l, e1, fun b hb => no (e2 b hb)⟩
    · obtain ⟨sl, h1, h2⟩ := unX_get h
      exact (unX_xc h2).elim
theorem VR.outx {q : Xat} {v : V} {r : DB} (h : VR K (zx z q) H F io e σ v r) : VR K z H F io (e.map unX) σ v r := by
  have no : ∀ {b}, (zx z q).H0 b = none → z.H0 b = none := fun {b} h => by
    obtain ⟨qa, qx, qC, qd, qf⟩ := q
    cases qd with
    | none => exact h
    | some dd =>
      have hne : b ≠ dd := fun w => by rw [w, show (zx z ⟨qa, qx, qC, some dd, qf⟩).H0 dd = some (.xd qf) from upd_same] at h; cases h
      rw [← show (zx z ⟨qa, qx, qC, some dd, qf⟩).H0 b = z.H0 b from upd_ne hne]; exact h
  unfold VR at h ⊢
  split at h
  · rename_i hw
    rw [if_pos hw]
    obtain ⟨a, rfl, h1, h2, h3, h4, h5⟩ := h
    refine ⟨a, rfl, h1, h2, h3, no h4, fun j d' hj => ?_⟩
    obtain ⟨sl, g1, g2⟩ := unX_get hj
    exact h5 j d' (by rw [g1, unX_ow g2])
  · rename_i hw
    rw [if_neg hw]
    exact h
theorem VR.gone {v : V} {r : DB} (i : Nat) (h : VR K z H F io e σ v r) : VR K z H F io (e.set i .un) (σ.set i none) v r := by
  unfold VR at h ⊢
  split at h
  · rename_i hw
    rw [if_pos hw]
    obtain ⟨a, rfl, h1, h2, h3, h4, h5⟩ := h
    refine ⟨a, rfl, h1, h2, h3, h4, fun j d' hj => ?_⟩
    by_cases hij : i = j
    · subst hij
      rw [List.getElem?_set_self'] at hj
      cases q : e[i]? with
      | none => rw [q] at hj; cases hj
      | some y => rw [q] at hj; cases hj
    · rw [List.getElem?_set_ne hij] at hj
      rw [List.getElem?_set_ne hij]
      exact h5 j d' hj
  · rename_i hw
    rw [if_neg hw]
    exact h
/-- what follows a suite with a name -/
def Ends.gone (D : Ends) : Option Nat → Ends
  | some i => { nx := fun σ' H' => D.nx (σ'.set i none) H', rt := D.rt, bk := fun σ' H' => D.bk (σ'.set i none) H', ct := fun σ' H' => D.ct (σ'.set i none) H' }
  | none => D
def putS (σ : L2.St) (i : Option Nat) (a : Addr) : L2.St := match i with
  | some i => σ.set i (some (.ref a))
  | none => σ
theorem PoO.outx {q : Xat} {i : Option Nat} {D : Ends} {o : O} {e' : En} {st' : Sto} (h0 : ∀ b, q.dd = some b → ∀ u, p.z.H0 b = some u → u = .xd q.fs) (k : PoO p F io H D o (outX e' i) st') : PoO (p.sui (zx p.z q)) F io H (Ends.gone D i) o e' st' := by
  have go : ∀ {σ2 : L2.St} {H3 : Hp}, PoG p.K (zx p.z q) F io H e' st' σ2 H3 → PoG p.K p.z F io H (outX e' i) st' (match i with | some i => σ2.set i none | none => σ2) H3 := by
    rintro σ2 H3 ⟨F3, io3, y3, s3⟩
    cases i with
    | none => exact ⟨F3, io3, y3, s3.outx h0⟩
    | some i => exact ⟨F3, io3, y3, (s3.outx h0).gone i⟩
  cases o with
  | nx => cases i <;> exact fun σ2 H3 po => k _ _ (go po)
  | bk => cases i <;> exact fun σ2 H3 po => k _ _ (go po)
  | ct => cases i <;> exact fun σ2 H3 po => k _ _ (go po)
  | rt d w =>
    rintro v σ2 H3 ⟨F3, io3, y3, s3, hv⟩
    cases i with
    | none => exact k v σ2 H3 ⟨F3, io3, y3, s3.outx h0, hv.outx⟩
    | some i => exact k v (σ2.set i none) H3 ⟨F3, io3, y3, (s3.outx h0).gone i, hv.outx.gone i⟩
theorem Sok.suite (S : Sok p X) {q : Xat} {oe : Obj} {pn : List (Addr × Obj)} (hf : XFit p q) (hz : Zc (.ref q.C) q.dd oe) (ho : ∃ vs, oe.data = .fields vs) : Sok (p.sui (zx p.z q)) (X.suite q.a ((q.a, oe) :: pn)) where
  K := S.K
  mg := S.mg
  calm := fun h => by cases h
  nd := S.nd
  hu := S.hu
  tk := fun u s' ⟨_, _, _, _, _, _, _, _, _, _, _, _, _, _, _, _, w⟩ => w.elim
  tab := fun f h => by cases h
  glb := S.glb
  blt := S.blt
  att := S.att
  new := fun c key h => by cases h
  met := fun c m key h => by cases h
  prp := fun c m key h => by cases h
  opn := fun c key h => by cases h
  exn := fun c f h => by cases h
  exk := ⟨S.exk.xi, S.exk.xf, S.exk.xm, S.exk.xo, S.exk.xz⟩
  sui := fun _ => ⟨X, oe, pn, q, rfl, rfl, hz, ho, hf.m, hf.nm, hf.rep, hf.nd⟩
/-- the suite, for whatever is caught -/
def tSui (p : Px) (c : Ss) (a : Addr) (cls : Value) (d : Option Addr) : TS := fun D σ H => ∃ q : Xat, q.a = a ∧ cls = .ref q.C ∧ d = q.dd ∧ XFit p q ∧ tstL (p.sui (zx p.z q)) c D σ H
/-- the wish of the body -/
def wTrx (p : Px) (c : Ss) (cv : Value) (D : Ends) (i : Option Nat) : WX := fun cls d σ H =>
  ∃ b, PySem.W.exmOne p.K cls cv = some b ∧ (b = true → ∀ a, H a = none → tSui p c a cls d (Ends.gone D i) (putS σ i a) H) ∧ (b = false → p.W cls d σ H)
theorem trx_core {i : Option Nat} {cn : Str} {cv : Value} {ys ns : List Str} {b c : Ss} {D : Ends} (S : Sok p X) (hcv : CvOk X.mg cn cv) (hy : ∀ y ∈ ys, (y, cn, true) ∈ p.ct.xm) (hn : ∀ y ∈ ns, (y, cn, false) ∈ p.ct.xm)
    (h : tst p (.trx i cn ys ns b c) D σ H) : tstL { p with W := wTrx p c cv D i } b D σ H := by
  obtain ⟨F, io, e, st, s, k⟩ := h
  refine ⟨F, io, e, st, s, ?_⟩
  rw [xS] at k
  show Res (xL p.B p.G b e st) (PoO p F io H D) _
  cases hR : xL p.B p.G b e st with
  | no => rw [hR] at k; exact k.elim
  | ok o e' st' => rw [hR] at k; exact k
  | ex x e1 st1 =>
    rw [hR] at k
    rintro σ' cls d H2 ⟨F1, io1, y1, s1, C, dd, fs, hm, rfl, rfl, hdd, hnm, hrep, hnd⟩
    have know : ∀ r, (x.c, cn, r) ∈ p.ct.xm → PySem.W.exmOne p.K (.ref C) cv = some r := fun r hr => by
      obtain ⟨C', cv', g1, g2, g3⟩ := S.exk.xm _ _ _ hr
      have e1 : p.mg x.c = some (.ref C') := by rw [← S.mg]; exact g1
      rw [hm] at e1
      cases e1
      rw [← S.K, hcv.fun g2]
      exact g3
    have k : Res (if ys.contains x.c then (if x.fs.all (fun p => atomB p.2) then (match putX e1 i x with
        | some e => (match xL p.B p.G c e st1 with
          | .ok o e s => Pv.R.ok o (outX e i) s
          | _ => .no)
        | none => .no) else .no)
      else if ns.contains x.c then .ex x e1 st1 else .no) (PoO p F io H D) (XS p F io H) := k
    split at k
    · rename_i hyx
      split at k <;> try exact k.elim
      rename_i hat
      refine ⟨true, know _ (hy _ (List.contains_iff_mem.mp hyx)), fun _ a ha => ?_, (fun h => by cases h)⟩
      split at k <;> try exact k.elim
      rename_i e2 hp
      split at k <;> try exact k.elim
      rename_i o e3 st3 hc
      have s2 := s1.inx (q := ⟨a, x, C, d, fs⟩) hdd
      have hni : ∀ b, d = some b → b ∉ p.z.i0 := fun b hb hm => by
        obtain ⟨l, e1, _⟩ := s1.pre
        exact s1.cel.noxd (hdd b hb).1 (by rw [e1]; exact List.mem_append_left _ hm)
      have h0 : ∀ b, (Xat.mk a x C d fs).dd = some b → ∀ u, p.z.H0 b = some u → u = .xd (Xat.mk a x C d fs).fs := fun b hb u hu => by
        have q := s1.frm b u hu (hni b hb)
        rw [(hdd b hb).1] at q; cases q; rfl
      have fit : XFit p ⟨a, x, C, d, fs⟩ := ⟨hm, hnm, fun K H F io => by
        have := List.all_eq_true.mp hat
        clear hnm
        generalize fs.map (·.2) = vs at hrep
        generalize hds : x.fs.map (·.2) = ds at hrep
        have this : ∀ d ∈ ds, atomB d = true := fun d hd => by
          rw [← hds] at hd
          obtain ⟨y, h1, rfl⟩ := List.mem_map.mp hd
          exact this y h1
        clear hds
        induction ds generalizing vs with
        | nil => cases hrep; exact .nil
        | cons d ds ih =>
          cases hrep with
          | cons r1 r2 => exact .cons (atom_repK (this _ List.mem_cons_self) r1 _ _ _) (ih _ r2 fun d hd => this d (List.mem_cons_of_mem _ hd)), hnd⟩
      refine ⟨⟨a, x, C, d, fs⟩, rfl, rfl, rfl, fit, F1, io1, e2, st1, ?_, ?_⟩
      · cases i with
        | none => cases hp; exact s2
        | some i =>
          unfold putX at hp
          simp only at hp
          split at hp
          · rename_i hi
            cases hp
            refine s2.putx ⟨C, d, fs, rfl, fun b hb => ?_⟩ (by rw [List.length_map]; exact hi)
            refine ⟨?_, hni b hb⟩
            subst hb
            exact upd_same
          · cases hp
      · show Res (xL p.B p.G c e2 st1) _ _
        rw [hc]
        exact PoO.outx h0 (PoO.ext y1 k)
    · split at k
      · rename_i hnx
        exact ⟨false, know _ (hn _ (List.contains_iff_mem.mp hnx)), (fun h => by cases h), fun _ => k σ' _ _ H2 ⟨F1, io1, y1, s1, C, d, fs, hm, rfl, rfl, hdd, hnm, hrep, hnd⟩⟩
      · exact k.elim
/-- try: .. except C as n: .. -/
theorem s_trxN {i : Nat} {n cn : Str} {cv : Value} {ys ns : List Str} {b c : Ss} {body suite : List Stmt} {b₀ : Stmt} {np pos' : Pos} (S : Sok p X) (hs : X.stack = X.env :: X.outer) (hf : X.env.frame = some X.env.locals) (hi : X.N[i]? = some n) (hln : X.env.kindOf n = some .local)
    (hg : Gl X cn) (hd : (cn == ("__debug__" : Str)) = false) (hcv : CvOk X.mg cn cv) (hy : ∀ y ∈ ys, (y, cn, true) ∈ p.ct.xm) (hn : ∀ y ∈ ns, (y, cn, false) ∈ p.ct.xm)
    (hB : ∀ (W : WX) (pn : List (Addr × Obj)) (xe : Value → Shared → Prop), Takes (X.tr pn xe) W → PassesOwn (model X.prog X.w) X.A X.env xe → PSs (X.tr pn xe) body (tstL { p with W := W } b))
    (hC : ∀ (q : Xat) (oe : Obj) (pn : List (Addr × Obj)), Sok (p.sui (zx p.z q)) (X.suite q.a ((q.a, oe) :: pn)) → PSs (X.suite q.a ((q.a, oe) :: pn)) (b₀ :: suite) (tstL (p.sui (zx p.z q)) c)) :
    PS X (.Try body [.ExceptHandler (some (.Name cn np)) (some n) (b₀ :: suite) pos'] [] [] pos) (tst p (.trx (some i) cn ys ns b c)) := by
  refine PS.imp (ps_try_as (c := cv) (Wout := p.W) (tb := fun W => tstL { p with W := W } b) (ts := tSui p c) hs hf S.nd hi hln ⟨hg, hd, ?_⟩ S.tk (fun W pn xe tk po => hB W pn xe tk po) (fun a oe cls d pn hz ho => ⟨fun pins s σ H D I h => ?_⟩)) (t' := tst p (.trx (some i) cn ys ns b c)) fun D σ H h => ?_
  · exact hcv.imp (fun h => h.1) fun h => ⟨h.1, h.2.2.1, h.2.1⟩
  · obtain ⟨q, rfl, rfl, rfl, fit, h⟩ := h
    exact (hC q oe pn (S.suite fit hz ho)).run pins s σ H D I h
  · have := trx_core S hcv hy hn h
    rw [S.K]
    exact this
/-- try: .. except C: .. -/
theorem s_trxO {cn : Str} {cv : Value} {ys ns : List Str} {b c : Ss} {body suite : List Stmt} {b₀ : Stmt} {np pos' : Pos} (S : Sok p X) (hs : X.stack = X.env :: X.outer) (hf : X.env.frame = some X.env.locals)
    (hg : Gl X cn) (hd : (cn == ("__debug__" : Str)) = false) (hcv : CvOk X.mg cn cv) (hy : ∀ y ∈ ys, (y, cn, true) ∈ p.ct.xm) (hn : ∀ y ∈ ns, (y, cn, false) ∈ p.ct.xm)
    (hB : ∀ (W : WX) (pn : List (Addr × Obj)) (xe : Value → Shared → Prop), Takes (X.tr pn xe) W → PassesOwn (model X.prog X.w) X.A X.env xe → PSs (X.tr pn xe) body (tstL { p with W := W } b))
    (hC : ∀ (q : Xat) (oe : Obj) (pn : List (Addr × Obj)), Sok (p.sui (zx p.z q)) (X.suite q.a ((q.a, oe) :: pn)) → PSs (X.suite q.a ((q.a, oe) :: pn)) (b₀ :: suite) (tstL (p.sui (zx p.z q)) c)) :
    PS X (.Try body [.ExceptHandler (some (.Name cn np)) none (b₀ :: suite) pos'] [] [] pos) (tst p (.trx none cn ys ns b c)) := by
  refine PS.imp (ps_try_only (c := cv) (Wout := p.W) (tb := fun W => tstL { p with W := W } b) (ts := tSui p c) hs hf ⟨hg, hd, ?_⟩ S.tk (fun W pn xe tk po => hB W pn xe tk po) (fun a oe cls d pn hz ho => ⟨fun pins s σ H D I h => ?_⟩)) (t' := tst p (.trx none cn ys ns b c)) fun D σ H h => ?_
  · exact hcv.imp (fun h => h.1) fun h => ⟨h.1, h.2.2.1, h.2.1⟩
  · obtain ⟨q, rfl, rfl, rfl, fit, h⟩ := h
    exact (hC q oe pn (S.suite fit hz ho)).run pins s σ H D I h
  · have := trx_core S hcv hy hn h
    rw [S.K]
    exact this
end
end Pv
namespace Pv
open PySem PySem.Spec PyProof.Rows L2
/-! ## walking a dict -/
theorem RepK.vals {K : PySem.W.Frag} {F : Zn} {io : List Addr} {H : Hp} : ∀ {kvs : List (L2.Key × V)} {ds : List (D × D)}, RepK K H F io kvs ds → RepL K H F io (kvs.map (·.2)) (ds.map (·.2))
  | _, _, .nil => .nil
  | _, _, .cons _ r rs => .cons r (RepK.vals rs)
theorem RepK.at {K : PySem.W.Frag} {F : Zn} {io : List Addr} {H : Hp} : ∀ {kvs : List (L2.Key × V)} {ds : List (D × D)} {i : Nat} {k : L2.Key} {v : V}, RepK K H F io kvs ds → kvs[i]? = some (k, v) → ∃ d, ds[i]? = some (keyD k, d) ∧ Rep K H F io v d
  | _, _, _, _, _, .nil, h => by simp at h
  | _, _, 0, _, _, .cons e r rs, h => by
    simp only [List.getElem?_cons_zero, Option.some.injEq, Prod.mk.injEq] at h
    obtain ⟨rfl, rfl⟩ := h
    subst e
    exact ⟨_, rfl, r⟩
  | _, _, i + 1, _, _, .cons e r rs, h => by
    obtain ⟨d, h1, h2⟩ := RepK.at rs (by simpa using h)
    exact ⟨d, by simpa using h1, h2⟩
theorem RepK.len {K : PySem.W.Frag} {F : Zn} {io : List Addr} {H : Hp} : ∀ {kvs : List (L2.Key × V)} {ds : List (D × D)}, RepK K H F io kvs ds → kvs.length = ds.length
  | _, _, .nil => rfl
  | _, _, .cons _ _ rs => by simp [RepK.len rs]
theorem rep_kV {K : PySem.W.Frag} {F : Zn} {io : List Addr} {H : Hp} (k : L2.Key) : Rep K H F io (kV k) (keyD k) := by
  cases k with
  | inl i => exact .int i
  | inr x => exact .str x
/-- the entry, with a locked dict -/
def zlk (z : Zo) (d : Addr) (o : HO) : Zo := ⟨upd z.H0 d o, z.i0, fun b => z.F0 b ∨ b = d, z.xa⟩
section
variable {p : Px} {X : Cx} {K : PySem.W.Frag} {z : Zo} {F F' : Zn} {io io' : List Addr} {H H' : Hp} {e : En} {st : Sto} {σ : L2.St} {pos : Pos} {d : Addr} {od : Obj} {kvs : List (L2.Key × V)}
theorem ext_lock (hd : H d = some (.dK kvs)) : Ext F io H F io (upd H d (.frz od (.dK kvs))) := by
  refine ⟨fun _ x => x, fun a u _ mu r => ?_, fun a xs r => ?_, fun a C dx fs _ r => ?_, [], by simp⟩
  · by_cases h : a = d
    · subst h
      rcases r with r | ⟨o, r⟩ <;> rw [hd] at r <;> cases r
      exact .inr ⟨od, upd_same⟩
    · rcases r with r | ⟨o, r⟩
      · exact .inl (by rw [upd_ne h]; exact r)
      · exact .inr ⟨o, by rw [upd_ne h]; exact r⟩
  · have h : a ≠ d := fun q => by
      subst q
      rcases r with r | ⟨o, r⟩ <;> rw [hd] at r <;> cases r
    rcases r with r | ⟨o, r⟩
    · exact .inl (by rw [upd_ne h]; exact r)
    · exact .inr ⟨o, by rw [upd_ne h]; exact r⟩
  · rw [upd_ne (fun q => by rw [q, hd] at r; cases r)]; exact r
theorem ext_unlock (hd : H d = some (.frz od (.dK kvs))) : Ext F io H F io (upd H d (.dK kvs)) := by
  refine ⟨fun _ x => x, fun a u _ mu r => ?_, fun a xs r => ?_, fun a C dx fs _ r => ?_, [], by simp⟩
  · by_cases h : a = d
    · subst h
      rcases r with r | ⟨o, r⟩ <;> rw [hd] at r <;> cases r
      · exact mu.elim
      · exact .inl upd_same
    · rcases r with r | ⟨o, r⟩
      · exact .inl (by rw [upd_ne h]; exact r)
      · exact .inr ⟨o, by rw [upd_ne h]; exact r⟩
  · have h : a ≠ d := fun q => by
      subst q
      rcases r with r | ⟨o, r⟩ <;> rw [hd] at r <;> cases r
    rcases r with r | ⟨o, r⟩
    · exact .inl (by rw [upd_ne h]; exact r)
    · exact .inr ⟨o, by rw [upd_ne h]; exact r⟩
  · rw [upd_ne (fun q => by rw [q, hd] at r; cases r)]; exact r
theorem Ob.nedk {a : Addr} {x : Pv.D} {o : HO} (h : Ob K H F io a x) (hd : H d = some (.frz od o)) : a ≠ d := fun q => by
  obtain ⟨u, h1, h2⟩ := h
  rw [q, hd] at h1
  cases h1
  cases h2
/-- the dict at d is protected, its objects as they are -/
theorem SR.lk0 (s : SR K z F io e st σ H) (hF : F d) {o : HO} (hd : H d = some o) (hx : ∀ fs, o ≠ .xd fs) : SR K (zlk z d o) F io e st σ H := by
  have ne : ∀ {b}, b ≠ d → (zlk z d o).H0 b = z.H0 b := fun h => upd_ne h
  have hio : d ∉ io := fun hm => s.cel.nof d hm hF
  refine ⟨s.cel, s.el, s.fr, fun i x h => ?_, s.sep, fun b u h n => ?_, ?_, fun b hb => ?_, fun i x h => ?_⟩
  · obtain ⟨a, g1, g2, g3, g4, g5⟩ := s.ow i x h
    exact ⟨a, g1, g2, g3, g4, by rw [ne (fun q => g3 (by rw [q]; exact hF))]; exact g5⟩
  · by_cases hb : b = d
    · subst hb
      have w : upd z.H0 b o b = some u := h
      rw [upd_same] at w; cases w; exact hd
    · rw [ne hb] at h; exact s.frm b u h n
  · obtain ⟨l, e1, e2⟩ := s.pre
    refine ⟨l, e1, fun b hb => ?_⟩
    rw [ne (fun q => hio (by rw [e1, ← q]; exact List.mem_append_right _ hb))]
    exact e2 b hb
  · by_cases h : b = d
    · exact .inl (.inr h)
    · rw [ne h]; exact (s.fnw b hb).imp .inl id
  · obtain ⟨a, ⟨C, dd, fs, h1, h23⟩, h4⟩ := s.xc i x h
    refine ⟨a, ⟨C, dd, fs, h1, fun b0 hb0 => ?_⟩, h4⟩
    obtain ⟨h2, h3⟩ := h23 b0 hb0
    refine ⟨?_, h3⟩
    rw [ne (fun q => ?_)]
    · exact h2
    · have w := s.frm b0 _ h2 h3
      rw [q, hd] at w
      cases w
      exact hx _ rfl
/-- .. it is locked -/
theorem SR.lk1 (s : SR K z F io e st σ H) (hF : F d) (hd : H d = some (.dK kvs)) : SR K (zlk z d (.frz od (.dK kvs))) F io e st σ (upd H d (.frz od (.dK kvs))) := by
  have s0 := s.lk0 hF hd (by intro fs q; cases q)
  have x : Ext F io H F io (upd H d (.frz od (.dK kvs))) := ext_lock hd
  have ne : ∀ {b}, b ≠ d → (zlk z d (.frz od (.dK kvs))).H0 b = (zlk z d (.dK kvs)).H0 b := fun h => by
    show upd z.H0 d _ _ = upd z.H0 d _ _
    rw [upd_ne h, upd_ne h]
  have at_ : (zlk z d (.dK kvs)).H0 d = some (.dK kvs) := upd_same
  have n0 : ∀ {b}, (zlk z d (.dK kvs)).H0 b = none → (zlk z d (.frz od (.dK kvs))).H0 b = none := fun {b} h => by
    rw [ne (fun q => by rw [q, at_] at h; cases h)]; exact h
  refine ⟨⟨fun b hb => ?_, s.cel.len, s.cel.nd, s.cel.nof, fun n b y h1 h2 => ?_⟩, s.el, fun i y h => ?_, fun i y h => ?_, s.sep, fun b u h n => ?_, ?_, fun b hb => (s0.fnw b hb).imp id n0, fun i y h => ?_⟩
  · obtain ⟨u, h⟩ := s.cel.dom b hb
    by_cases q : b = d
    · exact ⟨_, by rw [q]; exact upd_same⟩
    · exact ⟨u, by rw [upd_ne q]; exact h⟩
  · refine (s.cel.cell n b y h1 h2).ext x (upd_ne fun q => ?_)
    exact s.cel.nof b (List.mem_iff_getElem?.mpr ⟨n, h1⟩) (q ▸ hF)
  · obtain ⟨v, g1, g2⟩ := s.fr i y h
    exact ⟨v, g1, g2.ext x⟩
  · obtain ⟨a, g1, g2, g3, g4, g5⟩ := s0.ow i y h
    exact ⟨a, g1, g2.ext x (upd_ne fun q => g3 (q ▸ hF)), g3, g4, n0 g5⟩
  · by_cases hb : b = d
    · subst hb
      have w : upd z.H0 b _ b = some u := h
      rw [upd_same] at w; cases w; exact upd_same
    · rw [ne hb] at h
      rw [upd_ne hb]
      exact s0.frm b u h n
  · obtain ⟨l, e1, e2⟩ := s0.pre
    exact ⟨l, e1, fun b hb => n0 (e2 b hb)⟩
  · obtain ⟨a, ⟨C, dd, fs, h1, h23⟩, h4⟩ := s0.xc i y h
    refine ⟨a, ⟨C, dd, fs, h1, fun b0 hb0 => ?_⟩, h4⟩
    obtain ⟨h2, h3⟩ := h23 b0 hb0
    refine ⟨?_, h3⟩
    rw [ne (fun q => by rw [q, at_] at h2; cases h2)]; exact h2
/-- the lock goes -/
theorem SR.unlk1 (s : SR K (zlk z d (.frz od (.dK kvs))) F io e st σ H) (hz : ∀ w, z.H0 d = some w → w = .dK kvs) (hF : z.F0 d ∨ z.H0 d = none) (hi : d ∉ z.i0) :
    H d = some (.frz od (.dK kvs)) ∧ SR K z F io e st σ (upd H d (.dK kvs)) ∧ Ext F io H F io (upd H d (.dK kvs)) := by
  have at_ : (zlk z d (.frz od (.dK kvs))).H0 d = some (.frz od (.dK kvs)) := upd_same
  have hd := s.frm d _ at_ hi
  have x : Ext F io H F io (upd H d (.dK kvs)) := ext_unlock hd
  have ne : ∀ {b}, b ≠ d → (zlk z d (.frz od (.dK kvs))).H0 b = z.H0 b := fun h => upd_ne h
  have n0 : ∀ {b}, (zlk z d (.frz od (.dK kvs))).H0 b = none → b ≠ d ∧ z.H0 b = none := fun {b} h => by
    have hne : b ≠ d := fun q => by rw [q, at_] at h; cases h
    exact ⟨hne, by rw [← ne hne]; exact h⟩
  refine ⟨hd, ⟨⟨fun b hb => ?_, s.cel.len, s.cel.nd, s.cel.nof, fun n b y h1 h2 => ?_⟩, s.el, fun i y h => ?_, fun i y h => ?_, s.sep, fun b u h n => ?_, ?_, fun b hb => ?_, fun i y h => ?_⟩, x⟩
  · obtain ⟨u, h⟩ := s.cel.dom b hb
    by_cases q : b = d
    · exact ⟨_, by rw [q]; exact upd_same⟩
    · exact ⟨u, by rw [upd_ne q]; exact h⟩
  · have ob := s.cel.cell n b y h1 h2
    exact ob.ext x (upd_ne (ob.nedk hd))
  · obtain ⟨v, g1, g2⟩ := s.fr i y h
    exact ⟨v, g1, g2.ext x⟩
  · obtain ⟨a, g1, g2, g3, g4, g5⟩ := s.ow i y h
    exact ⟨a, g1, g2.ext x (upd_ne (g2.nedk hd)), g3, g4, (n0 g5).2⟩
  · by_cases hb : b = d
    · subst hb
      rw [hz u h]; exact upd_same
    · rw [upd_ne hb]
      exact s.frm b u (by rw [ne hb]; exact h) n
  · obtain ⟨l, e1, e2⟩ := s.pre
    exact ⟨l, e1, fun b hb => (n0 (e2 b hb)).2⟩
  · rcases s.fnw b hb with (h | h) | h
    · exact .inl h
    · subst h; exact hF
    · exact .inr (n0 h).2
  · obtain ⟨a, ⟨C, dd, fs, h1, h23⟩, h4⟩ := s.xc i y h
    refine ⟨a, ⟨C, dd, fs, h1, fun b0 hb0 => ?_⟩, h4⟩
    obtain ⟨h2, h3⟩ := h23 b0 hb0
    refine ⟨?_, h3⟩
    rw [← ne (fun q => by rw [q, at_] at h2; cases h2)]; exact h2
/-- .. a lock of others stays -/
theorem SR.unlk0 {o : HO} (s : SR K (zlk z d o) F io e st σ H) (hx : ∀ fs, o ≠ .xd fs) (hz : ∀ w, z.H0 d = some w → w = o) (hF : z.F0 d ∨ z.H0 d = none) : SR K z F io e st σ H := by
  have at_ : (zlk z d o).H0 d = some o := upd_same
  have ne : ∀ {b}, b ≠ d → (zlk z d o).H0 b = z.H0 b := fun h => upd_ne h
  have n0 : ∀ {b}, (zlk z d o).H0 b = none → b ≠ d ∧ z.H0 b = none := fun {b} h => by
    have hne : b ≠ d := fun q => by rw [q, at_] at h; cases h
    exact ⟨hne, by rw [← ne hne]; exact h⟩
  refine ⟨s.cel, s.el, s.fr, fun i y h => ?_, s.sep, fun b u h n => ?_, ?_, fun b hb => ?_, fun i y h => ?_⟩
  · obtain ⟨a, g1, g2, g3, g4, g5⟩ := s.ow i y h
    exact ⟨a, g1, g2, g3, g4, (n0 g5).2⟩
  · by_cases hb : b = d
    · subst hb
      rw [hz u h]; exact s.frm b o at_ n
    · exact s.frm b u (by rw [ne hb]; exact h) n
  · obtain ⟨l, e1, e2⟩ := s.pre
    exact ⟨l, e1, fun b hb => (n0 (e2 b hb)).2⟩
  · rcases s.fnw b hb with (h | h) | h
    · exact .inl h
    · subst h; exact hF
    · exact .inr (n0 h).2
  · obtain ⟨a, ⟨C, dd, fs, h1, h23⟩, h4⟩ := s.xc i y h
    refine ⟨a, ⟨C, dd, fs, h1, fun b0 hb0 => ?_⟩, h4⟩
    obtain ⟨h2, h3⟩ := h23 b0 hb0
    refine ⟨?_, h3⟩
    rw [← ne (fun q => by rw [q, at_] at h2; cases h2; exact hx _ rfl)]; exact h2
end
end Pv
namespace Pv
open PySem PySem.Spec PyProof.Rows L2
section
variable {p : Px} {X : Cx} {K : PySem.W.Frag} {z : Zo} {F F' : Zn} {io io' : List Addr} {H H' : Hp} {e : En} {st : Sto} {σ : L2.St} {pos : Pos} {d : Addr} {od : Obj} {kvs : List (L2.Key × V)}
/-- the turns over a locked dict -/
structure DkOK (K : PySem.W.Frag) (z : Zo) (J : It) (F : Zn) (io : List Addr) (H : Hp) (items : List Pv.D) : Prop where
  go : ∀ (i : Nat) (x : Pv.D) (F1 : Zn) (io1 : List Addr) (e1 : En) (st1 : Sto) (σ1 : L2.St) (H1 : Hp), Ext F io H F1 io1 H1 → SR K z F1 io1 e1 st1 σ1 H1 → items[i]? = some x → J.go i H1 ∧ ∀ v H2, J.yld i H1 v H2 → (H2 = H1 ∨ ∃ T xs, H1 T = none ∧ H2 = upd H1 T (.tup xs)) ∧ Rep K H2 F1 io1 v x
  stop : ∀ (F1 : Zn) (io1 : List Addr) (e1 : En) (st1 : Sto) (σ1 : L2.St) (H1 : Hp), Ext F io H F1 io1 H1 → SR K z F1 io1 e1 st1 σ1 H1 → J.stop items.length H1
theorem dk_keys {ds : List (Pv.D × Pv.D)} (hz : z.H0 d = some (.frz od (.dK kvs))) (hi : d ∉ z.i0) (r : RepK K H F io kvs ds) : DkOK K z (Itk d od kvs) F io H (dkL 0 ds) where
  go := fun i x F1 io1 e1 st1 σ1 H1 y s hx => by
    have hl : i < ds.length := by have := (List.getElem?_eq_some_iff.mp hx).1; simpa [dkL] using this
    refine ⟨⟨s.frm d _ hz hi, by rw [r.len]; exact hl⟩, fun v H2 ⟨e, k, w, h1, h2⟩ => ⟨.inl e, ?_⟩⟩
    subst h2
    obtain ⟨c, g1, g2⟩ := r.at h1
    simp only [dkL, List.getElem?_map, g1, Option.map_some, Option.some.injEq] at hx
    rw [← hx]
    exact rep_kV k
  stop := fun F1 io1 e1 st1 σ1 H1 y s => ⟨s.frm d _ hz hi, by rw [r.len]; simp [dkL]⟩
theorem dk_vals {ds : List (Pv.D × Pv.D)} (hz : z.H0 d = some (.frz od (.dK kvs))) (hi : d ∉ z.i0) (r : RepK K H F io kvs ds) : DkOK K z (Itd d od kvs) F io H (dkL 2 ds) where
  go := fun i x F1 io1 e1 st1 σ1 H1 y s hx => by
    have hl : i < ds.length := by have := (List.getElem?_eq_some_iff.mp hx).1; simpa [dkL] using this
    refine ⟨⟨s.frm d _ hz hi, by rw [r.len]; exact hl⟩, fun v H2 ⟨e, k, h1⟩ => ⟨.inl e, ?_⟩⟩
    subst e
    obtain ⟨c, g1, g2⟩ := (r.ext y).at h1
    simp only [dkL, List.getElem?_map, g1, Option.map_some, Option.some.injEq] at hx
    rw [← hx]
    exact g2
  stop := fun F1 io1 e1 st1 σ1 H1 y s => ⟨s.frm d _ hz hi, by rw [r.len]; simp [dkL]⟩
theorem dk_items {ds : List (Pv.D × Pv.D)} (hz : z.H0 d = some (.frz od (.dK kvs))) (hi : d ∉ z.i0) (r : RepK K H F io kvs ds) : DkOK K z (Iti d od kvs) F io H (dkL 1 ds) where
  go := fun i x F1 io1 e1 st1 σ1 H1 y s hx => by
    have hl : i < ds.length := by have := (List.getElem?_eq_some_iff.mp hx).1; simpa [dkL] using this
    refine ⟨⟨s.frm d _ hz hi, by rw [r.len]; exact hl⟩, fun v H2 ⟨T, k, w, h1, h2, h3, h4⟩ => ⟨.inr ⟨T, _, h3, h4⟩, ?_⟩⟩
    subst h2 h4
    obtain ⟨c, g1, g2⟩ := (r.ext y).at h1
    simp only [dkL, List.getElem?_map, g1, Option.map_some, Option.some.injEq] at hx
    rw [← hx]
    exact .tup (.inl (.inl upd_same)) (.cons (rep_kV k) (.cons (g2.ext (ext_new h3 s.cel.dom)) .nil))
  stop := fun F1 io1 e1 st1 σ1 H1 y s => ⟨s.frm d _ hz hi, by rw [r.len]; simp [dkL]⟩
/-- the reading of a walk over a locked dict -/
def tDk (p : Px) (wi : TI) (t : T) (m : Nat) (cb : Ss) : TS := fun D σ H => ∃ F io e st items, SR p.K p.z F io e st σ H ∧ wi σ H (fun J H1 => H1 = H ∧ DkOK p.K p.z J F io H items) ∧
  Res (forL (fun x e s => (asg p.B p.G t (x, false) e s).bind fun _ e s => xL p.B p.G cb e s) items e st) (PoO p F io H D) (XS p F io H)
theorem fdk_run {B : List Stmt} {cb : Ss} {wi : TI} {t : T} {m : Nat} {tg iter : Expr} (hp : PassesOwn (model X.prog X.w) X.A X.env X.xe) (hc : X.calm = true) (hi : PI X tg iter wi) (hw : ∀ σ H (R R' : It → Hp → Prop), (∀ J H1, R J H1 → R' J H1) → wi σ H R → wi σ H R')
    (ht : GOK X p tg t) (hB : PSs X B (tstL p cb)) (hs : ∀ x, foldedSetIterable iter X.env x = pure x) : PS X (.For tg iter B [] pos) (tDk p wi t m cb) := by
  refine PS.imp (ps_for hp hc hi ht.pg hB hs) fun D σ H ⟨F1, io1, e', st', items, s1, w, k⟩ => hw σ H _ _ (fun J H' ⟨eH, J1⟩ => ?_) w
  subst eH
  refine ⟨fun i m σ2 H2 => m = items.length - i ∧ i ≤ items.length ∧ ∃ F2 io2 e2 st2, Ext F1 io1 H' F2 io2 H2 ∧ SR p.K p.z F2 io2 e2 st2 σ2 H2 ∧
      Res (forL (fun x e s => (asg p.B p.G t (x, false) e s).bind fun _ e s => xL p.B p.G cb e s) (items.drop i) e2 st2) (PoO p F1 io1 H' D) (XS p F1 io1 H'),
    ⟨items.length, by simp, Nat.zero_le _, F1, io1, e', st', .refl .., s1, by simpa using k⟩, fun i m σ2 H2 ⟨hm, hi, F2, io2, e2, st2, y, s2, k⟩ => ?_⟩
  by_cases hlt : i < items.length
  · have hd : items[i]? = some items[i] := List.getElem?_eq_getElem hlt
    rw [List.drop_eq_getElem_cons hlt, forL] at k
    obtain ⟨g, yl⟩ := J1.go i items[i] F2 io2 e2 st2 σ2 H2 y s2 hd
    refine .inr ⟨g, fun σ' H3 => ∃ F2 io2 e2 st2, Ext F1 io1 H' F2 io2 H3 ∧ SR p.K p.z F2 io2 e2 st2 σ' H3 ∧
      Res (forL (fun x e s => (asg p.B p.G t (x, false) e s).bind fun _ e s => xL p.B p.G cb e s) (items.drop (i + 1)) e2 st2) (PoO p F1 io1 H' D) (XS p F1 io1 H'),
      fun σ' H3 w => ⟨items.length - (i + 1), by omega, rfl, hlt, w⟩, fun x H3 hy => ?_⟩
    obtain ⟨hH, hx⟩ := yl x H3 hy
    have s3 : SR p.K p.z F2 io2 e2 st2 σ2 H3 ∧ Ext F2 io2 H2 F2 io2 H3 := by
      rcases hH with rfl | ⟨T, xs, hT, rfl⟩
      · exact ⟨s2, .refl ..⟩
      · exact ⟨s2.newObj hT, ext_new hT s2.cel.dom⟩
    obtain ⟨s3, y3⟩ := s3
    have yy := y.trans y3
    refine ⟨F2, io2, e2, st2, (items[i], false), s3, hx, ?_⟩
    have k := k.of_bind
    refine Res.mono (Res.of_bind k) (fun _ e4 st4 k σ4 H4 _ ⟨F4, io4, y4, s4⟩ => ?_) fun _ _ _ x => XS.ext yy x
    refine ⟨F4, io4, e4, st4, s4, Res.mono k (fun o e5 st5 k => ?_) fun _ _ _ x => XS.ext (yy.trans y4) x⟩
    cases o with
    | nx => exact fun σ' H' ⟨F5, io5, y5, s5⟩ => ⟨F5, io5, e5, st5, (yy.trans y4).trans y5, s5, k⟩
    | ct => exact fun σ' H' ⟨F5, io5, y5, s5⟩ => ⟨F5, io5, e5, st5, (yy.trans y4).trans y5, s5, k⟩
    | bk => exact fun σ' H' po => k σ' H' (PoG.ext (yy.trans y4) po)
    | rt d w => exact fun v σ' H' po => k v σ' H' (PoE.ext (yy.trans y4) po)
  · have e1 : i = items.length := by omega
    subst e1
    rw [List.drop_length, forL] at k
    exact .inl ⟨J1.stop F2 io2 e2 st2 σ2 H2 y s2, k σ2 H2 ⟨F2, io2, y, s2⟩⟩
/-- what is walked, as it stands in the text -/
def wiK (m i : Nat) : TI := match m with
  | 0 => iKeys (tVar i)
  | 1 => iItems (tVar i)
  | _ => iVals (tVar i)
theorem wiK_mono (m i : Nat) : ∀ σ H (R R' : It → Hp → Prop), (∀ J H1, R J H1 → R' J H1) → wiK m i σ H R → wiK m i σ H R' := by
  intro σ H R R' h w
  match m, w with
  | 0, ⟨v, h1, d, o, e, q⟩ => exact ⟨v, h1, d, o, e, q.imp (fun ⟨kvs, a, b⟩ => ⟨kvs, a, h _ _ b⟩) fun ⟨kvs, a, b⟩ => ⟨kvs, a, h _ _ b⟩⟩
  | 1, ⟨v, h1, d, o, kvs, e, a, b⟩ => exact ⟨v, h1, d, o, kvs, e, a, h _ _ b⟩
  | _ + 2, ⟨v, h1, d, o, kvs, e, a, b⟩ => exact ⟨v, h1, d, o, kvs, e, a, h _ _ b⟩
theorem wiK_at {m i : Nat} {R : It → Hp → Prop} {ds : List (Pv.D × Pv.D)} (hσ : σ[i]? = some (some (.ref d))) (hd : H d = some (.frz od (.dK kvs))) (hz : z.H0 d = some (.frz od (.dK kvs))) (hi : d ∉ z.i0) (r : RepK K H F io kvs ds)
    (k : ∀ J, DkOK K z J F io H (dkL m ds) → R J H) : wiK m i σ H R := by
  match m, k with
  | 0, k => exact ⟨_, hσ, d, od, rfl, .inl ⟨kvs, hd, k _ (dk_keys hz hi r)⟩⟩
  | 1, k => exact ⟨_, hσ, d, od, kvs, rfl, hd, k _ (dk_items hz hi r)⟩
  | _ + 2, k => exact ⟨_, hσ, d, od, kvs, rfl, hd, k _ (dk_vals hz hi r)⟩
theorem Sok.iz (S : Sok p X) (hq : p.hot = false) (z' : Zo) : Sok (p.iz z') X :=
  ⟨S.K, S.mg, S.calm, S.nd, S.hu, fun u s' ⟨_, _, _, _, _, _, _, _, _, _, _, _, _, _, _, _, w⟩ => w.elim, S.tab, S.glb, S.blt, S.att, S.new, S.met, S.prp, S.opn, S.exn, S.exk, fun h => by rw [show (p.iz z').hot = p.hot from rfl, hq] at h; cases h⟩
theorem Res.nox2 {P : O → En → Sto → Prop} {E : Xc → En → Sto → Prop} {r : Pv.R O} (q : Res r.nox P E) : Res r P fun _ _ _ => False := by
  cases r with
  | ok o e s => exact q
  | ex x e s => exact q.elim
  | no => exact q
theorem VR.unlk {q : Zo} {a3 : Ext F io H F io H'} {v : V} {r : DB} (hH : ∀ a y, Ob K H F io a y → H' a = H a) (h0 : ∀ a y, Ob K H F io a y → q.H0 a = none → z.H0 a = none) (h : VR K q H F io e σ v r) : VR K z H' F io e σ v r := by
  unfold VR at h ⊢
  split at h
  · rename_i hw
    rw [if_pos hw]
    obtain ⟨a, rfl, b1, b2, b3, b4, b5⟩ := h
    exact ⟨a, rfl, b1.ext a3 (hH a _ b1), b2, b3, h0 a _ b1 b4, b5⟩
  · rename_i hw
    rw [if_neg hw]
    exact h.ext a3
/-- for .. in d -/
theorem s_fdk {B : List Stmt} {cb : Ss} {t : T} {m i : Nat} {tg iter : Expr} (S : Sok p X) (hp : PassesOwn (model X.prog X.w) X.A X.env X.xe) (hc : X.calm = true) (hi : PI X tg iter (wiK m i))
    (ht : ∀ z', GOK X (p.iz z') tg t) (hB : ∀ z', PSs X B (tstL (p.iz z') cb)) (hs : ∀ x, foldedSetIterable iter X.env x = pure x) : PS X (.For tg iter B [] pos) (tst p (.fdk t m i cb)) := by
  have h0 : ∀ z', PS X (.For tg iter B [] pos) (tDk (p.iz z') (wiK m i) t m cb) := fun z' => fdk_run hp hc hi (wiK_mono m i) (ht z') (hB z') hs
  have h1 : PS X (.For tg iter B [] pos) (fun D σ H => ∃ z', tDk (p.iz z') (wiK m i) t m cb D σ H) := ⟨fun pins s σ H D I ⟨z', q⟩ => (h0 z').run pins s σ H D I q⟩
  have h2 : PS X (.For tg iter B [] pos) (fun D σ H => tLock (fun D σ H => ∃ z', tDk (p.iz z') (wiK m i) t m cb D σ H) D σ H ∨ ∃ z', tDk (p.iz z') (wiK m i) t m cb D σ H) :=
    ⟨fun pins s σ H D I q => q.elim (fun q => (ps_lock h1).run pins s σ H D I q) fun q => h1.run pins s σ H D I q⟩
  refine PS.imp h2 fun D σ H ⟨F, io, e, st, s, k⟩ => ?_
  rw [xS] at k
  obtain ⟨F1, y1, s1⟩ := s.fz1 i
  split at k <;> try exact k.elim
  rename_i ds hsl
  obtain ⟨v, g1, g2⟩ := s1.fr i _ hsl
  cases g2 with
  | @dic d kvs _ hF hR rK =>
    have hio : d ∉ io := fun hm => s1.cel.nof d hm hF
    have hi0 : d ∉ p.z.i0 := fun hm => hio (by obtain ⟨l, e1, _⟩ := s1.pre; rw [e1]; exact List.mem_append_left _ hm)
    have hfn := s1.fnw d hF
    have k := Res.nox2 k
    rcases hR with hd | ⟨o, hd⟩
    · refine .inl ⟨d, .dK kvs, hd, trivial, fun od => ⟨zlk p.z d (.frz od (.dK kvs)), F1, io, _, st, dkL m ds, s1.lk1 hF hd, ?_, ?_⟩⟩
      · exact wiK_at (z := zlk p.z d (.frz od (.dK kvs))) g1 upd_same upd_same hi0 (rK.ext (ext_lock hd)) fun J q => ⟨rfl, q⟩
      · have hz : ∀ w, p.z.H0 d = some w → w = .dK kvs := fun w hw => by
          have := s1.frm d w hw hi0
          rw [hd] at this; cases this; rfl
        refine Res.mono k (fun o' e2 st2 q => ?_) fun _ _ _ x => x.elim
        have back : ∀ {σ2 : L2.St} {H2 : Hp}, PoG p.K (zlk p.z d (.frz od (.dK kvs))) F1 io (upd H d (.frz od (.dK kvs))) e2 st2 σ2 H2 → H2 d = some (.frz od (.dK kvs)) ∧ PoG p.K p.z F io H e2 st2 σ2 (upd H2 d (.dK kvs)) := by
          rintro σ2 H2 ⟨F2, io2, y2, s2⟩
          obtain ⟨a1, a2, a3⟩ := s2.unlk1 hz hfn hi0
          exact ⟨a1, F2, io2, y1.trans ((ext_lock hd).trans (y2.trans a3)), a2⟩
        cases o' with
        | nx => exact fun σ2 H2 po => ⟨(back po).1, q _ _ (back po).2⟩
        | bk => exact fun σ2 H2 po => ⟨(back po).1, q _ _ (back po).2⟩
        | ct => exact fun σ2 H2 po => ⟨(back po).1, q _ _ (back po).2⟩
        | rt x w =>
          rintro v σ2 H2 ⟨F2, io2, y2, s2, hv⟩
          obtain ⟨a1, a2, a3⟩ := s2.unlk1 hz hfn hi0
          refine ⟨a1, q v σ2 _ ⟨F2, io2, y1.trans ((ext_lock hd).trans (y2.trans a3)), a2, VR.unlk (a3 := a3) (fun a y ob => upd_ne (ob.nedk a1)) (fun a y ob h => ?_) hv⟩⟩
          rw [← show (zlk p.z d (.frz od (.dK kvs))).H0 a = p.z.H0 a from upd_ne (ob.nedk a1)]; exact h
    · refine .inr ⟨zlk p.z d (.frz o (.dK kvs)), F1, io, _, st, dkL m ds, s1.lk0 hF hd (by intro fs q; cases q), ?_, ?_⟩
      · exact wiK_at (z := zlk p.z d (.frz o (.dK kvs))) g1 hd upd_same hi0 rK fun J q => ⟨rfl, q⟩
      · have hz : ∀ w, p.z.H0 d = some w → w = .frz o (.dK kvs) := fun w hw => by
          have := s1.frm d w hw hi0
          rw [hd] at this; cases this; rfl
        refine Res.mono k (fun o' e2 st2 q => ?_) fun _ _ _ x => x.elim
        have back : ∀ {σ2 : L2.St} {H2 : Hp}, PoG p.K (zlk p.z d (.frz o (.dK kvs))) F1 io H e2 st2 σ2 H2 → PoG p.K p.z F io H e2 st2 σ2 H2 := by
          rintro σ2 H2 ⟨F2, io2, y2, s2⟩
          exact ⟨F2, io2, y1.trans y2, s2.unlk0 (by intro fs q; cases q) hz hfn⟩
        cases o' with
        | nx => exact fun σ2 H2 po => q _ _ (back po)
        | bk => exact fun σ2 H2 po => q _ _ (back po)
        | ct => exact fun σ2 H2 po => q _ _ (back po)
        | rt x w =>
          rintro v σ2 H2 ⟨F2, io2, y2, s2, hv⟩
          refine q v σ2 _ ⟨F2, io2, y1.trans y2, s2.unlk0 (by intro fs q; cases q) hz hfn, VR.unlk (a3 := .refl ..) (fun _ _ _ => rfl) (fun a y ob h => ?_) hv⟩
          have hne : a ≠ d := fun q2 => by rw [q2, show (zlk p.z d (.frz o (.dK kvs))).H0 d = some _ from upd_same] at h; cases h
          rw [← show (zlk p.z d (.frz o (.dK kvs))).H0 a = p.z.H0 a from upd_ne hne]; exact h
/-- list(d.values()) -/
theorem e_vls {es : Es} {o : Expr} {p1 ap mp : Pos} (S : Sok p X) (hq : p.hot = false) (h : EsOK X p es [o]) (hg : Gl X "list") (hb : attributeBase o "values" X.env (eval o X.env) = eval o X.env) (hl : (ap.endLine == mp.line) = true) :
    PE X (.Call (.Name "list" p1) [.Call (.Attribute o "values" ap) [] [] mp] [] pos) (tev p (.vls 0 es)) := by
  cases h with
  | cons h1 h2 =>
    cases h2
    refine PE.imp (pe_listVals (S.calm hq) hg (S.blt _ (by simp [bltAll])) h1.par hb hl) fun σ H Q ⟨F, io, e, st, s, h⟩ => ?_
    rw [ev] at h
    refine (tag1 (op_tag s h)).mono fun x H1 q => ?_
    obtain ⟨F2, io2, ds, r, hr, hg, k⟩ := q
    unfold vlsO at hg
    split at hg <;> first | (exfalso; omega) | (cases hg; done) | skip
    cases hg
    obtain ⟨v, e1, hd⟩ := hr.one
    cases e1
    obtain ⟨a, xs, rfl, ha, ra⟩ := hd.dic
    exact ⟨a, xs, rfl, ha, fun q hq => k _ _ (.lst hq (RepK.vals ra))⟩
/-- len(set(t)) -/
theorem e_lns {es : Es} {o : Expr} {p1 p2 mp : Pos} (S : Sok p X) (hq : p.hot = false) (h : EsOK X p es [o]) (hg : Gl X "len") (hg2 : Gl X "set") :
    PE X (.Call (.Name "len" p1) [.Call (.Name "set" p2) [o] [] mp] [] pos) (tev p (.vls 1 es)) := by
  cases h with
  | cons h1 h2 =>
    cases h2
    refine PE.imp (pe_lenSetT hg (S.blt _ (by simp [bltAll])) hg2 (S.blt _ (by simp [bltAll])) h1.par (S.calm hq) (h1.ns _)) fun σ H Q ⟨F, io, e, st, s, h⟩ => ?_
    rw [ev] at h
    refine (tag1 (op_tag s h)).mono fun x H1 q => ?_
    obtain ⟨F2, io2, ds, r, hr, hg, k⟩ := q
    unfold vlsO at hg
    split at hg <;> first | (exfalso; omega) | (cases hg; done) | skip
    obtain ⟨v, e1, hd⟩ := hr.one
    cases e1
    cases hi : intsD _ with
    | none => rw [hi] at hg; cases hg
    | some is =>
      rw [hi] at hg
      simp only [Option.bind_some] at hg
      split at hg <;> try cases hg
      rename_i hl
      obtain ⟨a, xs, rfl, ha, ra⟩ := hd.tup
      have e2 := ints_rep hi ra
      subst e2
      exact ⟨a, is, rfl, S.K ▸ ha, hl, k _ _ (.int _)⟩
end
end Pv
namespace Pv
open PySem PySem.Spec PyProof.Rows L2
section
variable {p : Px} {X : Cx} {K : PySem.W.Frag} {z : Zo} {F F' : Zn} {io io' : List Addr} {H H' : Hp} {e : En} {st : Sto} {σ : L2.St} {pos : Pos} {d : Addr} {od : Obj} {kvs : List (L2.Key × V)}
/-- the keys of x[y] -/
def wiS (K : PySem.W.Frag) (i j : Nat) : TI := iKeys (tOp (rIxL K) (tVar i) (tVar j))
theorem wiS_mono (K : PySem.W.Frag) (i j : Nat) : ∀ σ H (R R' : It → Hp → Prop), (∀ J H1, R J H1 → R' J H1) → wiS K i j σ H R → wiS K i j σ H R' := by
  intro σ H R R' h w
  obtain ⟨v, h1, v2, h2, p, xs, n, u, e1, e2, hs, ha, d, o, e, q⟩ := w
  exact ⟨v, h1, v2, h2, p, xs, n, u, e1, e2, hs, ha, d, o, e, q.imp (fun ⟨kvs, a, b⟩ => ⟨kvs, a, h _ _ b⟩) fun ⟨kvs, a, b⟩ => ⟨kvs, a, h _ _ b⟩⟩
theorem wiS_at {K2 : PySem.W.Frag} {i j : Nat} {n : Int} {a0 : Addr} {xs : List V} {R : It → Hp → Prop} {ds : List (Pv.D × Pv.D)} (hi : σ[i]? = some (some (.ref a0))) (hj : σ[j]? = some (some (.int n))) (hs : SqL K2 H a0 xs) (ha : atI xs n = some (.ref d)) (hd : H d = some (.frz od (.dK kvs)))
    (hz : z.H0 d = some (.frz od (.dK kvs))) (h0 : d ∉ z.i0) (r : RepK K H F io kvs ds) (k : DkOK K z (Itk d od kvs) F io H (dkL 0 ds) → R (Itk d od kvs) H) : wiS K2 i j σ H R :=
  ⟨_, hi, _, hj, a0, xs, n, _, rfl, rfl, hs, ha, d, od, rfl, .inl ⟨kvs, hd, k (dk_keys hz h0 r)⟩⟩
/-- for .. in x[y] -/
theorem s_fds {B : List Stmt} {cb : Ss} {t : T} {i j : Nat} {tg iter : Expr} (S : Sok p X) (hp : PassesOwn (model X.prog X.w) X.A X.env X.xe) (hc : X.calm = true) (hi : PI X tg iter (wiS X.K i j))
    (ht : ∀ z', GOK X (p.iz z') tg t) (hB : ∀ z', PSs X B (tstL (p.iz z') cb)) (hs : ∀ x, foldedSetIterable iter X.env x = pure x) : PS X (.For tg iter B [] pos) (tst p (.fds t i j cb)) := by
  have h0 : ∀ z', PS X (.For tg iter B [] pos) (tDk (p.iz z') (wiS X.K i j) t 0 cb) := fun z' => fdk_run hp hc hi (wiS_mono X.K i j) (ht z') (hB z') hs
  have h1 : PS X (.For tg iter B [] pos) (fun D σ H => ∃ z', tDk (p.iz z') (wiS X.K i j) t 0 cb D σ H) := ⟨fun pins s σ H D I ⟨z', q⟩ => (h0 z').run pins s σ H D I q⟩
  have h2 : PS X (.For tg iter B [] pos) (fun D σ H => tLock (fun D σ H => ∃ z', tDk (p.iz z') (wiS X.K i j) t 0 cb D σ H) D σ H ∨ ∃ z', tDk (p.iz z') (wiS X.K i j) t 0 cb D σ H) :=
    ⟨fun pins s σ H D I q => q.elim (fun q => (ps_lock h1).run pins s σ H D I q) fun q => h1.run pins s σ H D I q⟩
  refine PS.imp h2 fun D σ H ⟨F, io, e, st, s, k⟩ => ?_
  rw [xS] at k
  obtain ⟨F1, y1, s1⟩ := s.fz1 i
  split at k <;> try exact k.elim
  rename_i ls n hsl hsj
  split at k <;> try exact k.elim
  rename_i ds hat
  obtain ⟨v0, g0, r0⟩ := s1.fr i _ hsl
  obtain ⟨v1, gj, rj⟩ := s1.fr j _ hsj
  cases rj
  cases r0 with
  | @lst a0 xs0 _ hL rL =>
  obtain ⟨v, gat, g2⟩ := atD_at rL hat
  cases g2 with
  | @dic d kvs _ hF hR rK =>
    have hio : d ∉ io := fun hm => s1.cel.nof d hm hF
    have hi0 : d ∉ p.z.i0 := fun hm => hio (by obtain ⟨l, e1, _⟩ := s1.pre; rw [e1]; exact List.mem_append_left _ hm)
    have hfn := s1.fnw d hF
    have k := Res.nox2 k
    rcases hR with hd | ⟨o, hd⟩
    · refine .inl ⟨d, .dK kvs, hd, trivial, fun od => ⟨zlk p.z d (.frz od (.dK kvs)), F1, io, _, st, dkL 0 ds, s1.lk1 hF hd, ?_, ?_⟩⟩
      · exact wiS_at (z := zlk p.z d (.frz od (.dK kvs))) g0 gj (S.K ▸ (hL.ext (ext_lock (io := io) hd)).sq) gat upd_same upd_same hi0 (rK.ext (ext_lock hd)) fun q => ⟨rfl, q⟩
      · have hz : ∀ w, p.z.H0 d = some w → w = .dK kvs := fun w hw => by
          have := s1.frm d w hw hi0
          rw [hd] at this; cases this; rfl
        refine Res.mono k (fun o' e2 st2 q => ?_) fun _ _ _ x => x.elim
        have back : ∀ {σ2 : L2.St} {H2 : Hp}, PoG p.K (zlk p.z d (.frz od (.dK kvs))) F1 io (upd H d (.frz od (.dK kvs))) e2 st2 σ2 H2 → H2 d = some (.frz od (.dK kvs)) ∧ PoG p.K p.z F io H e2 st2 σ2 (upd H2 d (.dK kvs)) := by
          rintro σ2 H2 ⟨F2, io2, y2, s2⟩
          obtain ⟨a1, a2, a3⟩ := s2.unlk1 hz hfn hi0
          exact ⟨a1, F2, io2, y1.trans ((ext_lock hd).trans (y2.trans a3)), a2⟩
        cases o' with
        | nx => exact fun σ2 H2 po => ⟨(back po).1, q _ _ (back po).2⟩
        | bk => exact fun σ2 H2 po => ⟨(back po).1, q _ _ (back po).2⟩
        | ct => exact fun σ2 H2 po => ⟨(back po).1, q _ _ (back po).2⟩
        | rt x w =>
          rintro v σ2 H2 ⟨F2, io2, y2, s2, hv⟩
          obtain ⟨a1, a2, a3⟩ := s2.unlk1 hz hfn hi0
          refine ⟨a1, q v σ2 _ ⟨F2, io2, y1.trans ((ext_lock hd).trans (y2.trans a3)), a2, VR.unlk (a3 := a3) (fun a y ob => upd_ne (ob.nedk a1)) (fun a y ob h => ?_) hv⟩⟩
          rw [← show (zlk p.z d (.frz od (.dK kvs))).H0 a = p.z.H0 a from upd_ne (ob.nedk a1)]; exact h
    · refine .inr ⟨zlk p.z d (.frz o (.dK kvs)), F1, io, _, st, dkL 0 ds, s1.lk0 hF hd (by intro fs q; cases q), ?_, ?_⟩
      · exact wiS_at (z := zlk p.z d (.frz o (.dK kvs))) g0 gj (S.K ▸ hL.sq) gat hd upd_same hi0 rK fun q => ⟨rfl, q⟩
      · have hz : ∀ w, p.z.H0 d = some w → w = .frz o (.dK kvs) := fun w hw => by
          have := s1.frm d w hw hi0
          rw [hd] at this; cases this; rfl
        refine Res.mono k (fun o' e2 st2 q => ?_) fun _ _ _ x => x.elim
        have back : ∀ {σ2 : L2.St} {H2 : Hp}, PoG p.K (zlk p.z d (.frz o (.dK kvs))) F1 io H e2 st2 σ2 H2 → PoG p.K p.z F io H e2 st2 σ2 H2 := by
          rintro σ2 H2 ⟨F2, io2, y2, s2⟩
          exact ⟨F2, io2, y1.trans y2, s2.unlk0 (by intro fs q; cases q) hz hfn⟩
        cases o' with
        | nx => exact fun σ2 H2 po => q _ _ (back po)
        | bk => exact fun σ2 H2 po => q _ _ (back po)
        | ct => exact fun σ2 H2 po => q _ _ (back po)
        | rt x w =>
          rintro v σ2 H2 ⟨F2, io2, y2, s2, hv⟩
          refine q v σ2 _ ⟨F2, io2, y1.trans y2, s2.unlk0 (by intro fs q; cases q) hz hfn, VR.unlk (a3 := .refl ..) (fun _ _ _ => rfl) (fun a y ob h => ?_) hv⟩
          have hne : a ≠ d := fun q2 => by rw [q2, show (zlk p.z d (.frz o (.dK kvs))).H0 d = some _ from upd_same] at h; cases h
          rw [← show (zlk p.z d (.frz o (.dK kvs))).H0 a = p.z.H0 a from upd_ne hne]; exact h
end
end Pv
namespace Pv
open PySem PySem.Spec PyProof.Rows L2
/-! ## a comprehension over the keys of a dict -/
section
variable {p : Px} {X : Cx} {K : PySem.W.Frag} {z : Zo} {F F' : Zn} {io io' : List Addr} {H H' : Hp} {e : En} {st : Sto} {σ : L2.St} {pos : Pos} {d : Addr} {od : Obj} {kvs : List (L2.Key × V)}
theorem comp_lk {elt : E} {t : T} {c : Es} {vs : List Nat} {J : It} {items : List Pv.D} {P0 : List Pv.D → En → Sto → Prop} {Q : VK} (hc : oneC c = true) (ht : ∀ i ∈ tgs t, i ∈ vs) (s1 : SR p.K p.z F io e st σ H) (J1 : DkOK p.K p.z J F io H items)
    (k : Res (compL (cmpF p.B p.G elt t c vs) items [] (wipeE e vs) st) P0 (fun _ _ _ => False))
    (hP0 : ∀ (D : Addr) (acc : List Pv.D) (e2 : En) (s2 : Sto) (F2 : Zn) (io2 : List Addr) (H2 : Hp) (ws : List V), P0 acc e2 s2 → Ext F io H F2 io2 H2 → SR p.K p.z F2 io2 e2 s2 σ H2 → Fre p.z F2 io2 e2 σ D → H2 D = some (.lst ws) → RepL p.K H2 F2 io2 ws acc → Q (.ref D) H2) :
    tLc (fun _ H R => R J H) (gtvI p t) (ttsI p c) (tevI p elt) vs σ H Q := by
  show ∀ D, H D = none → _
  intro D hD
  have hi : D ∉ p.z.i0 := fun q => (s1.fre hD).i (by obtain ⟨l, e1, _⟩ := s1.pre; rw [e1]; exact List.mem_append_left _ q)
  refine ⟨fun i m H2 => m = items.length - i ∧ i ≤ items.length ∧ CoW p D σ vs F io H (cmpF p.B p.G elt t c vs) items P0 i H2, ⟨_, rfl, Nat.zero_le _, F, io, wipeE e vs, st, [], [], ext_new hD s1.cel.dom, (s1.newObj hD).unwipe rfl, Wpd.wipe _ _, (s1.fre hD).unwipe rfl, upd_same, .nil, k⟩, ?_⟩
  rintro i m H2 ⟨hm, hi2, F2, io2, e2, st2, acc, ws, y, s2, w2, f2, hD2, r2, k⟩
  by_cases hlt : i < items.length
  · have hd : items[i]? = some items[i] := List.getElem?_eq_getElem hlt
    obtain ⟨g, yl⟩ := J1.go i items[i] F2 io2 e2 st2 σ H2 y s2 hd
    refine .inr ⟨g, fun H' => CoW p D σ vs F io H (cmpF p.B p.G elt t c vs) items P0 (i + 1) H', fun H' w => ⟨items.length - (i + 1), by omega, rfl, hlt, w⟩, fun x H3 hy => ?_⟩
    rw [List.drop_eq_getElem_cons hlt, compL] at k
    obtain ⟨hH, hx⟩ := yl x H3 hy
    obtain ⟨s3, y3, hD3⟩ := yld_keep s2 f2 hD2 hH
    have s3' := (s3.wpd w2).addz (f2.wpd w2) hD3
    have k := Res.of_bind k
    rw [cmpF_eq] at k
    refine ⟨zadd p.z D (.lst ws), F2, io2, e2, st2, (items[i], false), s3', hx, (Res.of_bind k).mono (fun _ e4 st4 k σ4 H4 of4 ⟨F4, io4, y4, s4⟩ => ?_) fun _ _ _ x => x.elim⟩
    have hw4 : L2.wipe σ4 vs = L2.wipe σ vs := (wipe_off of4 ht).trans (wipe_wipe ..)
    refine ⟨hw4, ?_⟩
    refine conds hc s4 (P := fun b e' st' => Res (if b = true then (ev p.B p.G elt e' st').bind fun d e s => R.ok (some d.1) (wipeE e vs) s else R.ok none (wipeE e' vs) st') (fun o e s => Res (match o with
      | some d => if acc.length < sizeMax then compL (cmpF p.B p.G elt t c vs) (items.drop (i + 1)) (acc ++ [d]) e s else .no
      | none => compL (cmpF p.B p.G elt t c vs) (items.drop (i + 1)) acc e s) P0 (fun _ _ _ => False)) (fun _ _ _ => False)) ?_ fun b e5 st5 k F5 io5 H5 y5 s5 => ?_
    · unfold bRes
      refine (Res.of_bind k).mono (fun b e' st' k => ?_) fun _ _ _ x => x.elim
      split at k
      · rename_i hb; exact ⟨true, hb, by show Res (if true = true then _ else _) _ _; rw [if_pos rfl]; exact k⟩
      · rename_i hb; exact ⟨false, hb, by show Res (if false = true then _ else _) _ _; rw [if_neg (by decide)]; exact k⟩
      · exact k.elim
    · obtain ⟨sz5, hD5, f5⟩ := SR.prot s5 f2.z hi (fun _ q => by cases q)
      have k : Res (if b = true then _ else _) _ _ := k
      cases b with
      | false =>
        rw [if_neg (by decide)] at k ⊢
        exact ⟨F5, io5, wipeE e5 vs, st5, acc, ws, ((y.trans y3).trans y4).trans y5, sz5.unwipe hw4, Wpd.wipe _ _, f5.unwipe hw4, hD5, (r2.ext y3).ext (y4.trans y5), k⟩
      | true =>
        rw [if_pos rfl] at k ⊢
        refine ⟨zadd p.z D (.lst ws), F5, io5, e5, st5, s5, (Res.of_bind k).mono (fun r e6 st6 k v H6 po => ?_) fun _ _ _ x => x.elim⟩
        obtain ⟨F6, io6, y6, s6, hv⟩ := po.frz
        obtain ⟨sz6, hD6, f6⟩ := SR.prot s6 f2.z hi (fun _ q => by cases q)
        have k : Res (if acc.length < sizeMax then compL (cmpF p.B p.G elt t c vs) (items.drop (i + 1)) (acc ++ [r.1]) (wipeE e6 vs) st6 else .no) _ _ := k
        split at k
        · rename_i hl
          have r6 := ((r2.ext y3).ext (y4.trans y5)).ext y6
          obtain ⟨y7, s7⟩ := sz6.updFre (u := .lst (ws ++ [v])) f6 hD6 trivial
          exact ⟨ws, hD6, by rw [r2.length, ← sizeMax_eq]; exact hl, F6, io6, wipeE e6 vs, st6, acc ++ [r.1], ws ++ [v], (((y.trans y3).trans y4).trans y5).trans (y6.trans y7), s7.unwipe hw4, Wpd.wipe _ _, f6.unwipe hw4, upd_same, (r6.snoc hv).ext y7, k⟩
        · exact k.elim
  · have e1 : i = items.length := by omega
    subst e1
    rw [List.drop_length, compL] at k
    exact .inl ⟨J1.stop F2 io2 e2 st2 σ H2 y s2, hP0 D acc e2 st2 F2 io2 H2 ws k y s2 f2 hD2 r2⟩
theorem gtvI_iz (z' : Zo) (t : T) : gtvI (p.iz z') t = gtvI p t := rfl
theorem ttsI_iz (z' : Zo) (c : Es) : ttsI (p.iz z') c = ttsI p c := by cases c <;> rfl
theorem tevI_iz (z' : Zo) (c : E) : tevI (p.iz z') c = tevI p c := rfl
theorem cmd_lk {ll : Bool} {ce : E} {t : T} {i : Nat} {c : Es} {own : List (Str × Nat)} {Q : VK} (hc1 : oneC c = true) (ht : ∀ i ∈ tgs t, i ∈ own.map (·.2)) (h : tev p (.cmd ll ce t i c own) σ H Q) :
    tLockE (tLc (iKeys (tVar i)) (gtvI p t) (ttsI p c) (tevI p ce) (own.map (·.2))) σ H Q ∨ tLc (iKeys (tVar i)) (gtvI p t) (ttsI p c) (tevI p ce) (own.map (·.2)) σ H Q := by
  obtain ⟨F, io, e, st, s, k⟩ := h
  rw [ev] at k
  obtain ⟨F1, y1, s1⟩ := s.fz1 i
  generalize own.map (·.2) = vs at *
  split at k <;> try exact k.elim
  rename_i ds hsl
  obtain ⟨v, g1, g2⟩ := s1.fr i _ hsl
  cases g2 with
  | @dic d kvs _ hF hR rK =>
    have hio : d ∉ io := fun hm => s1.cel.nof d hm hF
    have hi0 : d ∉ p.z.i0 := fun hm => hio (by obtain ⟨l, e1, _⟩ := s1.pre; rw [e1]; exact List.mem_append_left _ hm)
    have hfn := s1.fnw d hF
    obtain ⟨P0, hP0, k⟩ : ∃ P0, (∀ ds e s, P0 ds e s → Res (stow ll (.lst ds) e s) (fun r e' st' => ∀ v H', PoE p.K p.z F io H e' st' σ r v H' → Q v H') (XW p F io H σ)) ∧ Res (compL (cmpF p.B p.G ce t c vs) (dkL 0 ds) [] (wipeE (fz1 e i) vs) st) P0 (fun _ _ _ => False) := ⟨_, fun _ _ _ q => q, (Res.of_bind k).nox⟩
    rcases hR with hd | ⟨o, hd⟩
    · refine .inl ⟨d, .dK kvs, hd, trivial, fun od => ?_⟩
      have hz : ∀ w, p.z.H0 d = some w → w = .dK kvs := fun w hw => by
        have := s1.frm d w hw hi0
        rw [hd] at this; cases this; rfl
      refine ⟨_, g1, d, od, rfl, .inl ⟨kvs, upd_same, ?_⟩⟩
      rw [← ttsI_iz (p := p) (zlk p.z d (.frz od (.dK kvs))) c]
      refine comp_lk (p := p.iz (zlk p.z d (.frz od (.dK kvs)))) (J := Itk d od kvs) (Q := fun v H' => H' d = some (.frz od (.dK kvs)) ∧ Q v (upd H' d (.dK kvs))) hc1 ht (s1.lk1 hF hd) (dk_keys (z := zlk p.z d (.frz od (.dK kvs))) upd_same hi0 (rK.ext (ext_lock hd))) k fun D acc e2 s2 F2 io2 H2 ws q y2 sr f2 hD2 r2 => ?_
      have sr : SR p.K (zlk p.z d (.frz od (.dK kvs))) F2 io2 e2 s2 σ H2 := sr
      obtain ⟨a1, a2, a3⟩ := sr.unlk1 hz hfn hi0
      have hne : D ≠ d := fun w => by
        have := f2.z
        rw [w, show (p.iz (zlk p.z d (.frz od (.dK kvs)))).z.H0 d = some (.frz od (.dK kvs)) from upd_same] at this
        cases this
      have f3 : Fre p.z F2 io2 e2 σ D := ⟨f2.f, f2.i, by have w := f2.z; rwa [show (p.iz (zlk p.z d (.frz od (.dK kvs)))).z.H0 D = p.z.H0 D from upd_ne hne] at w, f2.o⟩
      obtain ⟨r', e5, st5, k5, po⟩ := stow_po (hP0 _ _ _ q) (show PoE p.K p.z F io H _ _ σ (.lst acc, true) (.ref D) (upd H2 d (.dK kvs)) from ⟨F2, io2, y1.trans ((ext_lock hd).trans (y2.trans a3)), a2, f3.own (by rw [upd_ne hne]; exact hD2) (.lst (r2.ext a3))⟩)
      exact ⟨a1, k5 _ _ po⟩
    · have hz : ∀ w, p.z.H0 d = some w → w = .frz o (.dK kvs) := fun w hw => by
        have := s1.frm d w hw hi0
        rw [hd] at this; cases this; rfl
      refine .inr ⟨_, g1, d, o, rfl, .inl ⟨kvs, hd, ?_⟩⟩
      rw [← ttsI_iz (p := p) (zlk p.z d (.frz o (.dK kvs))) c]
      refine comp_lk (p := p.iz (zlk p.z d (.frz o (.dK kvs)))) (J := Itk d o kvs) (Q := Q) hc1 ht (s1.lk0 hF hd (by intro fs q; cases q)) (dk_keys (z := zlk p.z d (.frz o (.dK kvs))) upd_same hi0 rK) k fun D acc e2 s2 F2 io2 H2 ws q y2 sr f2 hD2 r2 => ?_
      have sr : SR p.K (zlk p.z d (.frz o (.dK kvs))) F2 io2 e2 s2 σ H2 := sr
      have a2 := sr.unlk0 (by intro fs q; cases q) hz hfn
      have hne : D ≠ d := fun w => by
        have := f2.z
        rw [w, show (p.iz (zlk p.z d (.frz o (.dK kvs)))).z.H0 d = some (.frz o (.dK kvs)) from upd_same] at this
        cases this
      have f3 : Fre p.z F2 io2 e2 σ D := ⟨f2.f, f2.i, by have w := f2.z; rwa [show (p.iz (zlk p.z d (.frz o (.dK kvs)))).z.H0 D = p.z.H0 D from upd_ne hne] at w, f2.o⟩
      obtain ⟨r', e5, st5, k5, po⟩ := stow_po (hP0 _ _ _ q) (show PoE p.K p.z F io H _ _ σ (.lst acc, true) (.ref D) H2 from ⟨F2, io2, y1.trans y2, a2, f3.own hD2 (.lst r2)⟩)
      exact k5 _ _ po
theorem e_cmd {ll : Bool} {ce : E} {t : T} {i : Nat} {c : Es} {own : List (Str × Nat)} {elt tg iter : Expr} {ifs : List Expr} {scope : Scope} (S : Sok p X) (hq : p.hot = false) (hi : PI X tg iter (iKeys (tVar i))) (hs : ∀ x, foldedSetIterable iter X.env x = pure x) (ok : BlkOk X.N X.env.scope scope own)
    (ht : ∀ i ∈ tgs t, i ∈ own.map (·.2)) (hg : BlkG X p scope tg t) (he : BlkE X p scope elt ce) (hc : BlkC X p scope ifs c) : PE X (.ListComp elt [⟨tg, iter, ifs, 0⟩] scope pos) (tev p (.cmd ll ce t i c own)) := by
  have h1 : PE X (.ListComp elt [⟨tg, iter, ifs, 0⟩] scope pos) (tLc (iKeys (tVar i)) (gtvI p t) (ttsI p c) (tevI p ce) (own.map (·.2))) :=
    pe_lc (S.calm hq) S.nd hi ok (fun s H C cl fp => pg_gtvI fun z' => (hg.ok s H C cl fp z').pg) (hc.pts) (fun s H C cl fp => pe_tevI fun z' => (he.ok s H C cl fp z').pe) hs
  have h2 : PE X (.ListComp elt [⟨tg, iter, ifs, 0⟩] scope pos) (fun σ H Q => tLockE (tLc (iKeys (tVar i)) (gtvI p t) (ttsI p c) (tevI p ce) (own.map (·.2))) σ H Q ∨ tLc (iKeys (tVar i)) (gtvI p t) (ttsI p c) (tevI p ce) (own.map (·.2)) σ H Q) :=
    ⟨fun pins s σ H Q I q => q.elim (fun q => (pe_lock h1).run pins s σ H Q I q) fun q => h1.run pins s σ H Q I q⟩
  exact PE.imp h2 fun σ H Q q => cmd_lk (by cases hc <;> rfl) ht q
/-- name = [..] -/
theorem s_setLd {ll : Bool} {ce : E} {t : T} {j : Nat} {c : Es} {own : List (Str × Nat)} {elt tg iter : Expr} {ifs : List Expr} {scope : Scope} {i : Nat} {y : Str} {py spos : Pos} (S : Sok p X) (hq : p.hot = false) (hy : X.N[i]? = some y) (hyl : X.env.scope.names.lookup y = some .local)
    (hl : (py.line == pos.line) = true) (ha : (scope.names.any fun (n, k) => n == y && (k == .local || k == .cell)) = false) (hi : PI X tg iter (iKeys (tVar j))) (hs : ∀ x, foldedSetIterable iter X.env x = pure x) (ok : BlkOk X.N X.env.scope scope own)
    (ht : ∀ i ∈ tgs t, i ∈ own.map (·.2)) (hg : BlkG X p scope tg t) (he : BlkE X p scope elt ce) (hc : BlkC X p scope ifs c) : PS X (.Assign [.Name y py] (.ListComp elt [⟨tg, iter, ifs, 0⟩] scope pos) spos) (fun D σ H => tev p (.cmd ll ce t j c own) σ H fun x H1 => gName i x σ H1 D.nx) := by
  have base : PS X (.Assign [.Name y py] (.ListComp elt [⟨tg, iter, ifs, 0⟩] scope pos) spos) (fun D σ H => tLc (iKeys (tVar j)) (gtvI p t) (ttsI p c) (tevI p ce) (own.map (·.2)) σ H fun x H1 => gName i x σ H1 D.nx) :=
    ⟨fun pins s σ H D I q => (ps_setLc (S.calm hq) S.nd hy hyl (sw_true I.ok.kind hyl hl ha) hi ok (fun s H C cl fp => pg_gtvI fun z' => (hg.ok s H C cl fp z').pg) (hc.pts) (fun s H C cl fp => pe_tevI fun z' => (he.ok s H C cl fp z').pe) hs).run pins s σ H D I q⟩
  refine ⟨fun pins s σ H D I q => ?_⟩
  rcases cmd_lk (by cases hc <;> rfl) ht q with ⟨d, u, hd, mu, w⟩ | w
  · exact (ps_lock base).run pins s σ H D I ⟨d, u, hd, mu, fun od => w od⟩
  · exact base.run pins s σ H D I w
end
end Pv
namespace Pv
open PySem PySem.Spec PyProof.Rows L2
/-! ## does a core term stand for a text? -/
structure Ck where
  N : List Str
  sc : Scope
  asn : List Str
  dn : List Str
  ct : Ct
  hot : Bool
def visB (sc : Scope) (x : Str) : Bool := match sc.names.lookup x with
  | some .local => true
  | some .cell => true
  | some .free => true
  | _ => false
def glB (sc : Scope) (x : Str) : Bool := match sc.names.lookup x with
  | some .globalImplicit => true
  | _ => false
def okN (x : Str) : Bool := !(x == ("__debug__" : Str)) && !(x == ("__classdict__" : Str))
def varB (k : Ck) (i : Nat) (x : Str) : Bool := decide (k.N[i]? = some x) && visB k.sc x && okN x
def glbB (k : Ck) (x : Str) : Bool := glB k.sc x && okN x
def locOnly (sc : Scope) (x : Str) : Bool := match sc.names.lookup x with
  | some .local => true
  | _ => false
/-- in an except suite -/
def Ck.sui (k : Ck) : Ck := { k with hot := true, dn := [], ct := k.ct.cold }
/-- names of classes -/
def nmsB (k : Ck) : List Str → List Expr → Bool
  | [], l => l.isEmpty
  | t :: ts, l => match l with
    | .Name x _ :: r => decide (t = x) && glbB k x && nmsB k ts r
    | _ => false
/-- in a comprehension's block -/
def Ck.blk (k : Ck) (scope : Scope) : Ck := ⟨k.N, relS scope k.sc, k.N.filter (locOnly (relS scope k.sc)), k.dn, k.ct, k.hot⟩
def isTupX : Expr → Bool
  | .Tuple _ _ _ => true
  | _ => false
def plainX : Expr → Bool
  | .Starred _ _ => false
  | .Set _ _ _ => false
  | .Slice _ _ _ _ => false
  | .ListComp _ _ _ _ => false
  | .SetComp _ _ _ _ => false
  | .DictComp _ _ _ _ _ => false
  | .UnaryOp _ _ _ => false
  | .BoolOp _ _ _ => false
  | .IfExp _ _ _ _ => false
  | .Compare _ _ _ _ => false
  | _ => true
def baseB : Expr → Bool
  | .Call _ _ _ _ => false
  | _ => true
def lineB (a b : Pos) : Bool := a.endLine == b.line
def iterB : Expr → Bool
  | .Subscript .. | .Name .. | .Attribute .. => true
  | _ => false
theorem iterB_ok {iter : Expr} {env : Env} (h : iterB iter = true) : ∀ x, foldedSetIterable iter env x = pure x := by
  unfold iterB at h
  split at h <;> first | (intro x; rfl) | cases h
mutual
def ckE : Ck → E → Expr → Bool
  | k, .int i, e => match e with
    | .Constant (.int j) _ _ => decide (i = j)
    | _ => false
  | k, .str s, e => match e with
    | .Constant (.str t) _ _ => decide (s = t)
    | _ => false
  | k, .bl b, e => match e with
    | .Constant (.bool c) _ _ => decide (b = c)
    | _ => false
  | k, .non, e => match e with
    | .Constant .none _ _ => true
    | _ => false
  | k, .var i, e => match e with
    | .Name x _ => varB k i x
    | _ => false
  | k, .mov i, e => match e with
    | .Name x _ => varB k i x
    | _ => false
  | k, .gl x, e => match e with
    | .Name y _ => decide (x = y) && glbB k y
    | _ => false
  | k, .bin op es, e => match e with
    | .BinOp a o b _ => decide (op = o) && ckEs k es [a, b]
    | _ => false
  | k, .neg c, e => match e with
    | .UnaryOp .USub a _ => ckE k c a
    | _ => false
  | k, .not c, e => match e with
    | .UnaryOp .Not a _ => ckE k c a
    | _ => false
  | k, .and es, e => match e with
    | .BoolOp .And l _ => !l.isEmpty && ckEs k es l
    | _ => false
  | k, .or es, e => match e with
    | .BoolOp .Or l _ => !l.isEmpty && ckEs k es l
    | _ => false
  | k, .ite c a b, e => match e with
    | .IfExp x y z _ => ckE k c x && ckE k a y && ckE k b z
    | _ => false
  | k, .cmp op es, e => match e with
    | .Compare a [o] [b] _ => decide (op = o) && ckEs k es [a, b]
    | _ => false
  | k, .chn o1 o2 es c, e => match e with
    | .Compare a [p1, p2] [b, d] _ => decide (o1 = p1) && decide (o2 = p2) && ckEs k es [a, b] && ckE k c d
    | _ => false
  | k, .tup es, e => match e with
    | .Tuple l _ _ => ckEs k es l
    | _ => false
  | k, .lst _ es, e => match e with
    | .List l _ => ckEs k es l
    | _ => false
  | k, .call _ f es, e => match e with
    | .Call (.Name g _) l [] _ => decide (f = g) && glbB k g && k.dn.contains g && ckEs k es l
    | _ => false
  | k, .blt f es, e => match e with
    | .Call (.Name g _) (a :: l) [] _ => (!(hotF f && k.hot)) && (decide (f.name = g) && glbB k g && ckEs k es (a :: l))
    | _ => false
  | k, .mth m os es, e => match e with
    | .Call (.Attribute o n ap) l [] cp => decide (m.name = n) && baseB o && lineB ap cp && decide (l.length < 20) && ckEs k os [o] && ckEs k es l
    | _ => false
  | k, .chv m i es, e => match e with
    | .Call (.Attribute (.Name x _) n ap) l [] cp => decide (m.name = n) && varB k i x && lineB ap cp && decide (l.length < 20) && ckEs k es l
    | _ => false
  | k, .cho m c es, e => match e with
    | .Call (.Attribute o n ap) l [] cp => decide (m.name = n) && baseB o && lineB ap cp && decide (l.length < 20) && ckE k c o && ckEs k es l
    | _ => false
  | k, .sub es, e => match e with
    | .Subscript a b _ => ckEs k es [a, b]
    | _ => false
  | k, .slc n es, e => match e with
    | .Subscript a (.Slice lo hi none _) _ => match n, es, lo, hi with
      | 0, .cons c .nil, none, none => ckE k c a
      | 1, .cons c (.cons d .nil), some x, none => ckE k c a && ckE k d x
      | 2, .cons c (.cons d .nil), none, some x => ckE k c a && ckE k d x
      | _, _, _, _ => false
    | .Subscript a (.Slice none none (some (.UnaryOp .USub (.Constant (.int j) _ _) _)) _) _ => match n, es with
      | 4, .cons c .nil => decide (j = 1) && ckE k c a
      | _, _ => false
    | _ => false
  | k, .slb es c, e => match e with
    | .Subscript a (.Slice (some x) (some y) none _) _ => ckEs k es [a, x] && ckE k c y
    | _ => false
  | k, .dct _ es, e => match e with
    | .Dict ks vs _ => (!k.hot) && (match flatKV ks vs with
      | some l => decide (ks.length ≤ 15) && ckEs k es l
      | none => false)
    | _ => false
  | k, .atr cs f es, e => match e with
    | .Attribute o n _ => decide (f = n) && baseB o && cs.all (fun c => decide ((c, f) ∈ k.ct.an)) && ckEs k es [o]
    | _ => false
  | k, .new _ c key es, e => match e with
    | .Call (.Name g _) l [] _ => decide (c = g) && glbB k g && decide ((c, key) ∈ k.ct.cn) && ckEs k es l
    | _ => false
  | k, .met _ cs m os es, e => match e with
    | .Call (.Attribute o n ap) l [] cp => decide (m = n) && baseB o && lineB ap cp && decide (l.length < 20) && cs.all (fun c => decide ((c.1, m, c.2) ∈ k.ct.mn)) && ckEs k os [o] && ckEs k es l
    | _ => false
  | k, .lri it, e => match e with
    | .Call (.Name g _) [.Call (.Name f _) l [] _] [] _ => (!k.hot) && (decide (g = ("list" : Str)) && glbB k g && decide (f = ("range" : Str)) && glbB k f && (match it, l with
      | .rg1 c, [a] => ckE k c a
      | .rg2 c d, [a, b] => ckE k c a && ckE k d b
      | _, _ => false))
    | _ => false
  | k, .stt es c, e => match e with
    | .Tuple l _ _ => (match l.getLast? with
      | some (.Starred a _) => ckEs k es l.dropLast && ckE k c a
      | _ => false)
    | _ => false
  | k, .gds x c, e => match e with
    | .Subscript (.Name y _) a _ => decide (x = y) && glbB k y && ckE k c a
    | _ => false
  | k, .gdi n x c, e => match e with
    | .Compare a [o] [.Name y _] _ => decide (x = y) && decide (o = if n then .NotIn else .In) && glbB k y && ckE k c a
    | _ => false
  | k, .gdg x es, e => match e with
    | .Call (.Attribute (.Name y _) n ap) l [] cp => decide (x = y) && decide (n = "get") && glbB k y && lineB ap cp && decide (l.length < 20) && ckEs k es l
    | _ => false
  | k, .comp _ c t it cs own, e => match e with
    | .ListComp elt [⟨tg, iter, ifs, 0⟩] scope _ => (!k.hot) && (blkC k.N k.sc scope own && ckI k it tg iter && (tgs t).all (fun i => (own.map (·.2)).contains i) && ckT (k.blk scope) t tg && ckE (k.blk scope) c elt && oneC cs && ckEs (k.blk scope) cs ifs)
    | _ => false
  | k, .mxd d es, e => match e with
    | .Call (.Name g _) [o] [⟨some kw, .Constant (.int i) _ _, _⟩] _ => (!k.hot) && (decide (g = ("max" : Str)) && glbB k g && decide (kw = ("default" : Str)) && decide (i = d) && ckEs k es [o])
    | _ => false
  | k, .isc c es, e => match e with
    | .Call (.Name g _) [o, .Name y _] [] _ => decide (g = ("isinstance" : Str)) && glbB k g && decide (y = c) && glbB k y && decide (c ∈ k.ct.xo) && ckEs k es [o]
    | _ => false
  | k, .prp cs m es, e => match e with
    | .Attribute o n _ => decide (m = n) && baseB o && cs.all (fun c => decide ((c.1, m, c.2) ∈ k.ct.pn)) && ckEs k es [o]
    | _ => false
  | k, .opm cs es, e => match e with
    | .BinOp a o b _ => decide (o = .Add) && cs.all (fun c => decide (c ∈ k.ct.on)) && ckEs k es [a, b]
    | _ => false
  | k, .cmo _ c t i cs own, e => match e with
    | .ListComp elt [⟨tg, .Name v _, ifs, 0⟩] scope _ => (!k.hot) && (blkC k.N k.sc scope own && varB k i v && (tgs t).all (fun i => (own.map (·.2)).contains i) && ckT (k.blk scope) t tg && ckE (k.blk scope) c elt && oneC cs && ckEs (k.blk scope) cs ifs)
    | _ => false
  | k, .cmd _ c t i cs own, e => match e with
    | .ListComp elt [⟨tg, .Name v _, ifs, 0⟩] scope _ => (!k.hot) && (blkC k.N k.sc scope own && varB k i v && (tgs t).all (fun i => (own.map (·.2)).contains i) && ckT (k.blk scope) t tg && ckE (k.blk scope) c elt && oneC cs && ckEs (k.blk scope) cs ifs)
    | _ => false
  | k, .cms _ c t o cs own, e => match e with
    | .ListComp elt [⟨tg, iter, ifs, 0⟩] scope _ => (!k.hot) && (blkC k.N k.sc scope own && (iterB iter && ckE k o iter) && (tgs t).all (fun i => (own.map (·.2)).contains i) && ckT (k.blk scope) t tg && ckE (k.blk scope) c elt && oneC cs && ckEs (k.blk scope) cs ifs)
    | _ => false
  | k, .dcm _ ck cv t it cs own, e => match e with
    | .DictComp kx vx [⟨tg, iter, ifs, 0⟩] scope _ => (!k.hot) && (blkC k.N k.sc scope own && ckI k it tg iter && (tgs t).all (fun i => (own.map (·.2)).contains i) && ckT (k.blk scope) t tg && ckE (k.blk scope) ck kx && ckE (k.blk scope) cv vx && oneC cs && ckEs (k.blk scope) cs ifs)
    | _ => false
  | k, .vls m es, e => match m, e with
    | 0, .Call (.Name g _) [.Call (.Attribute o n ap) [] [] mp] [] _ => (!k.hot) && (decide (g = ("list" : Str)) && glbB k g && decide (n = ("values" : Str)) && baseB o && lineB ap mp && ckEs k es [o])
    | 1, .Call (.Name g _) [.Call (.Name g2 _) [o] [] _] [] _ => (!k.hot) && (decide (g = ("len" : Str)) && glbB k g && decide (g2 = ("set" : Str)) && glbB k g2 && ckEs k es [o])
    | _, _ => false
  | k, .xis i tp cs ys ns, e => match e with
    | .Call (.Name g _) [.Name v _, a] [] _ => k.hot && decide (g = ("isinstance" : Str)) && glbB k g && varB k i v && decide (cs.length ≤ 1000) && ys.all (fun y => decide ((y, cs, true) ∈ k.ct.xi)) && ns.all (fun y => decide ((y, cs, false) ∈ k.ct.xi)) &&
      (match tp, a with
      | false, .Name c _ => decide (cs = [c]) && glbB k c
      | true, .Tuple l _ _ => nmsB k cs l
      | _, _ => false)
    | _ => false
  | k, .xfl i cs f, e => match e with
    | .Attribute (.Name v _) n _ => k.hot && decide (f = n) && varB k i v && cs.all (fun c => decide ((c, f) ∈ k.ct.xf))
    | _ => false
  | k, .nev, e => plainX e
def ckEs : Ck → Es → List Expr → Bool
  | k, .nil, l => l.isEmpty
  | k, .cons c r, l => match l with
    | a :: l => ckE k c a && ckEs k r l
    | [] => false
def ckI : Ck → I → Expr → Expr → Bool
  | k, .it c, tg, e => ckE k c e
  | k, .rg1 c, tg, e => match e with
    | .Call (.Name f _) [a] [] _ => decide (f = ("range" : Str)) && glbB k f && ckE k c a
    | _ => false
  | k, .rg2 c d, tg, e => match e with
    | .Call (.Name f _) [a, b] [] _ => decide (f = ("range" : Str)) && glbB k f && ckE k c a && ckE k d b
    | _ => false
  | k, .rev c, tg, e => match e with
    | .Call (.Name f _) [a] [] _ => decide (f = ("reversed" : Str)) && glbB k f && ckE k c a
    | _ => false
  | k, .rv1 c, tg, e => match e with
    | .Call (.Name f _) [.Call (.Name g _) [a] [] _] [] _ => decide (f = ("reversed" : Str)) && glbB k f && decide (g = ("range" : Str)) && glbB k g && ckE k c a
    | _ => false
  | k, .rv2 c d, tg, e => match e with
    | .Call (.Name f _) [.Call (.Name g _) [a, b] [] _] [] _ => decide (f = ("reversed" : Str)) && glbB k f && decide (g = ("range" : Str)) && glbB k g && ckE k c a && ckE k d b
    | _ => false
  | k, .enu c, tg, e => match e with
    | .Call (.Name f _) [a] [] _ => decide (f = ("enumerate" : Str)) && glbB k f && ckE k c a && isTupX tg
    | _ => false
  | k, .ens c n, tg, e => match e with
    | .Call (.Name f _) [a] [⟨some x, .Constant (.int m) _ _, q⟩] r => decide (f = ("enumerate" : Str)) && decide (x = ("start" : Str)) && decide (m = n) && glbB k f && ckE k c a && isTupX tg
    | _ => false
  | k, .zip c d, tg, e => match e with
    | .Call (.Name f _) [a, b] [] _ => decide (f = ("zip" : Str)) && glbB k f && ckE k c a && ckE k d b && isTupX tg
    | _ => false
def ckT : Ck → T → Expr → Bool
  | k, .nm i, e => match e with
    | .Name x _ => decide (k.N[i]? = some x) && k.asn.contains x
    | _ => false
  | k, .tp ts, e => match e with
    | .Tuple l _ _ => (!k.hot) && ckTs k ts l
    | _ => false
  | k, .sbv n c, e => match e with
    | .Subscript (.Name x _) b _ => varB k n x && ckE k c b
    | _ => false
  | k, .sbo c d, e => match e with
    | .Subscript a b _ => ckE k c a && ckE k d b
    | _ => false
def ckTs : Ck → Ts → List Expr → Bool
  | k, .nil, l => l.isEmpty
  | k, .cons t r, l => match l with
    | a :: l => ckT k t a && ckTs k r l
    | [] => false
end
/-- no comprehension, no display of a tuple -/
def noComp : Expr → Bool
  | .ListComp _ _ _ _ => false
  | .SetComp _ _ _ _ => false
  | .DictComp _ _ _ _ _ => false
  | _ => true
def noTup : Expr → Bool
  | .Tuple _ _ _ => false
  | .List _ _ => false
  | _ => true
/-- is the value stored by the comprehension itself? -/
def swapV (sc : Scope) (tg a : Expr) : Bool := match (match a with
    | .ListComp _ _ s _ | .SetComp _ _ s _ | .DictComp _ _ _ s _ => some s
    | _ => none), tg with
  | some scope, .Name t pos => locOnly sc t && (pos.line == a.pos.line) && !(scope.names.any fun (n, k) => n == t && (k == .local || k == .cell))
  | _, _ => false
def swOK : E → Bool
  | .comp _ _ _ _ _ _ => true
  | .dcm _ _ _ _ _ _ _ => true
  | .cmd _ _ _ _ _ _ => true
  | .cms _ _ _ _ _ _ => true
  | _ => false
mutual
def ckS : Ck → S → Stmt → Bool
  | k, .rse c fs es, s => match s with
    | .Raise (some (.Call (.Name x _) (a :: l) [] _)) none _ => (!k.hot) && (decide (x = c) && decide ((c, fs) ∈ k.ct.xn) && decide (fs.length ≤ 1000) && glbB k c && ckEs k es (a :: l))
    | .Raise (some (.Call (.Name x _) [] [] _)) none _ => (!k.hot) && (match es with
      | .nil => fs.isEmpty && decide (x = c) && decide (c ∈ k.ct.xz) && glbB k c
      | _ => false)
    | _ => false
  | k, .fdk t m i b, s => match s with
    | .For tg iter y [] _ => (!k.hot) && (ckT k t tg && ckSs k b y && (match m, iter with
      | 0, .Name x _ => varB k i x
      | 1, .Call (.Attribute (.Name x _) n ap) [] [] cp => decide (n = ("items" : Str)) && varB k i x && lineB ap cp && isTupX tg
      | 2, .Call (.Attribute (.Name x _) n ap) [] [] cp => decide (n = ("values" : Str)) && varB k i x && lineB ap cp
      | _, _ => false))
    | _ => false
  | k, .fds t i j b, s => match s with
    | .For tg (.Subscript (.Name x _) (.Name y _) _) u [] _ => (!k.hot) && (ckT k t tg && ckSs k b u && varB k i x && varB k j y)
    | _ => false
  | k, .trx i cn ys ns b c, s => match s with
    | .Try body [.ExceptHandler (some (.Name x _)) n (b0 :: suite) _] [] [] _ => (!k.hot) && (decide (x = cn) && glbB k cn && !(ys ++ ns).isEmpty && ys.all (fun y => decide ((y, cn, true) ∈ k.ct.xm)) && ns.all (fun y => decide ((y, cn, false) ∈ k.ct.xm)) &&
      (match i, n with
      | some i, some v => decide (k.N[i]? = some v) && locOnly k.sc v
      | none, none => true
      | _, _ => false) && ckSs k b body && ckSs k.sui c (b0 :: suite))
    | _ => false
  | k, .sav n cs f c, s => match s with
    | .Assign [.Attribute (.Name x _) g _] a _ => decide (f = g) && varB k n x && cs.all (fun c => decide ((c, f) ∈ k.ct.an)) && ckE k c a
    | _ => false
  | k, .sao co cs f c, s => match s with
    | .Assign [.Attribute o g _] a _ => decide (f = g) && cs.all (fun c => decide ((c, f) ∈ k.ct.an)) && ckE k co o && ckE k c a
    | _ => false
  | k, .exp c, s => match s with
    | .Expr a _ => ckE k c a && noComp a
    | _ => false
  | k, .set t c, s => match s with
    | .Assign [tg] a _ => ckT k t tg && ckE k c a && (noTup tg || noTup a) && (if swapV k.sc tg a then swOK c else true)
    | _ => false
  | k, .aug i op c, s => match s with
    | .AugAssign (.Name x _) o a _ => decide (op = o) && decide (k.N[i]? = some x) && k.asn.contains x && ckE k c a
    | _ => false
  | k, .ifs c a b, s => match s with
    | .If x y z _ => ckE k c x && ckSs k a y && ckSs k b z
    | _ => false
  | k, .whl c b, s => match s with
    | .While x y [] _ => (!k.hot) && (ckE k c x && ckSs k b y)
    | _ => false
  | k, .for_ t it b, s => match s with
    | .For tg iter y [] _ => (!k.hot) && (ckT k t tg && ckI k it tg iter && ckSs k b y)
    | _ => false
  | k, .fos t o b, s => match s with
    | .For tg iter y [] _ => (!k.hot) && (ckT k t tg && (iterB iter && ckE k o iter) && ckSs k b y)
    | _ => false
  | k, .ret c, s => match s with
    | .Return (some a) _ => ckE k c a
    | _ => false
  | k, .retN, s => match s with
    | .Return none _ => true
    | _ => false
  | k, .brk, s => match s with
    | .Break _ => true
    | _ => false
  | k, .cnt, s => match s with
    | .Continue _ => true
    | _ => false
  | k, .pas, s => match s with
    | .Pass _ => true
    | .Expr (.Constant (.str _) _ _) _ => true
    | _ => false
  | k, .nev, _ => true
def ckSs : Ck → Ss → List Stmt → Bool
  | k, .nil, l => l.isEmpty
  | k, .cons c r, l => match l with
    | a :: l => ckS k c a && ckSs k r l
    | [] => false
end

structure Fit (X : Cx) (p : Px) (k : Ck) : Prop where
  N : X.N = k.N
  sc : X.env.scope = k.sc
  asn : ∀ x, k.asn.contains x = true → Loc X.env.scope x ∧ (X.fn x = true ∨ X.env.scope.names.lookup x = some .local)
  dn : ∀ x, k.dn.contains x = true → p.dn x = true
  ct : p.ct = k.ct
  hot : p.hot = k.hot
section
variable {p : Px} {X : Cx} {k : Ck}
theorem Fit.hq (f : Fit X p k) {b : Bool} (h : ((!k.hot) && b) = true) : p.hot = false ∧ b = true := by
  rw [Bool.and_eq_true, Bool.not_eq_true'] at h
  exact ⟨by rw [f.hot]; exact h.1, h.2⟩
theorem vis_of {sc : Scope} {x : Str} (h : visB sc x = true) : Vis sc x := by
  unfold visB at h
  split at h
  · exact .inl (by assumption)
  · exact .inr (.inl (by assumption))
  · exact .inr (.inr (by assumption))
  · cases h
theorem gl_of (f : Fit X p k) {x : Str} (h : glbB k x = true) : Gl X x ∧ (x == ("__debug__" : Str)) = false := by
  unfold glbB okN at h
  simp only [Bool.and_eq_true, Bool.not_eq_true'] at h
  refine ⟨?_, h.2.1⟩
  show X.env.scope.names.lookup x = _
  rw [f.sc]
  have h1 := h.1
  unfold glB at h1
  split at h1
  · assumption
  · cases h1
theorem var_of (f : Fit X p k) {x : Str} {i : Nat} (h : varB k i x = true) : X.N[i]? = some x ∧ Vis X.env.scope x ∧ (x == ("__debug__" : Str)) = false ∧ (x == ("__classdict__" : Str)) = false := by
  unfold varB okN at h
  simp only [Bool.and_eq_true, Bool.not_eq_true', decide_eq_true_eq] at h
  exact ⟨by rw [f.N]; exact h.1.1, by rw [f.sc]; exact vis_of h.1.2, h.2.1, h.2.2⟩
theorem EOK.common {ex : Expr} {c : E} (h : PE X ex (tev p c)) (hv : ∀ i, c ≠ .var i) (hx : plainX ex = true) : EOK X p ex c := by
  refine .mk1 h hv (fun whole => ?_) (fun es => ?_) (fun op => ?_) fun lo hi st q e => ?_
  · cases ex <;> first | rfl | cases hx
  · cases ex <;> first | rfl | cases hx
  · cases ex <;> first | (cases op <;> rfl) | cases hx
  · subst e; cases hx
/-- a form with a test of its own -/
theorem EOK.test {ex : Expr} {c : E} (h : PE X ex (tev p c)) (ht : PT X ex (tpt p c)) (hv : ∀ i, c ≠ .var i) (hx : ∀ es, starEach (ex :: es) X.env = (false, eval ex X.env) :: starEach es X.env) (hm : ∀ op, behindInMarks op ex = false) (hs : ∀ lo hi st q, ex ≠ .Slice lo hi st q) : EOK X p ex c :=
  ⟨h, by rw [tar_eq hv]; exact h, ht, hx, hm, hs⟩
theorem e_and' {l : List Expr} {a : Expr} {c : Es} {pos : Pos} (q : EsOK X p c (a :: l)) : PE X (.BoolOp .And (a :: l) pos) (tev p (.and c)) := by
  refine PE.imp (e_and q) fun σ H Q ⟨F, io, e, st, s, k⟩ => ⟨F, io, e, st, s, ?_⟩
  rw [if_pos rfl]; rw [ev] at k; exact k
theorem t_and' {l : List Expr} {a : Expr} {c : Es} {pos : Pos} (q : EsOK X p c (a :: l)) : PT X (.BoolOp .And (a :: l) pos) (tpt p (.and c)) := by
  refine PT.imp (t_and q).pt fun σ H Q ⟨F, io, e, st, s, k⟩ => ⟨F, io, e, st, s, ?_⟩
  rw [if_pos rfl]; rw [ev] at k; exact k
theorem e_or' {l : List Expr} {a : Expr} {c : Es} {pos : Pos} (q : EsOK X p c (a :: l)) : PE X (.BoolOp .Or (a :: l) pos) (tev p (.or c)) := by
  refine PE.imp (e_or q) fun σ H Q ⟨F, io, e, st, s, k⟩ => ⟨F, io, e, st, s, ?_⟩
  rw [if_neg (by decide)]; rw [ev] at k; exact k
theorem t_or' {l : List Expr} {a : Expr} {c : Es} {pos : Pos} (q : EsOK X p c (a :: l)) : PT X (.BoolOp .Or (a :: l) pos) (tpt p (.or c)) := by
  refine PT.imp (t_or q).pt fun σ H Q ⟨F, io, e, st, s, k⟩ => ⟨F, io, e, st, s, ?_⟩
  rw [if_neg (by decide)]; rw [ev] at k; exact k
theorem Sok.blk (S : Sok p X) (hq : p.hot = false) (s : Shared) (H : Hp) (scope : Scope) (C : Addr) (cl : List (Str × Addr)) (fp : List Addr) (z' : Zo) : Sok (p.iz z') (X.blk s H scope (compEnvC scope cl C X.env) fp) :=
  ⟨S.K, S.mg, S.calm, S.nd, S.hu, fun u s' ⟨_, _, _, _, _, _, _, _, _, _, _, _, _, _, _, _, w⟩ => w.elim, S.tab, S.glb, S.blt, S.att, S.new, S.met, S.prp, S.opn, S.exn, S.exk, fun h => by rw [show (p.iz z').hot = p.hot from rfl, hq] at h; cases h⟩
theorem Fit.blk (f : Fit X p k) (s : Shared) (H : Hp) (scope : Scope) (C : Addr) (cl : List (Str × Addr)) (fp : List Addr) (z' : Zo) : Fit (X.blk s H scope (compEnvC scope cl C X.env) fp) (p.iz z') (k.blk scope) where
  N := f.N
  sc := by
    show relS scope X.env.scope = relS scope k.sc
    rw [f.sc]
  asn := fun x hx => by
    have hx : x ∈ k.N.filter (locOnly (relS scope k.sc)) := List.contains_iff_mem.mp hx
    have h := (List.mem_filter.mp hx).2
    unfold locOnly at h
    have h2 : (compEnvC scope cl C X.env).scope.names.lookup x = some .local := by
      show (relS scope X.env.scope).names.lookup x = _
      rw [f.sc]
      split at h
      · assumption
      · cases h
    exact ⟨.inl h2, .inr h2⟩
  dn := f.dn
  ct := f.ct
  hot := f.hot
theorem Fit.at (f : Fit X p k) (z' : Zo) : Fit X (p.at z') k := ⟨f.N, f.sc, f.asn, f.dn, f.ct, f.hot⟩
theorem nms_ok (f : Fit X p k) : ∀ {cs : List Str} {l : List Expr}, nmsB k cs l = true → NmsOk X cs l
  | [], l, h => by
    unfold nmsB at h
    cases l with
    | nil => exact .nil
    | cons _ _ => cases h
  | t :: ts, l, h => by
    unfold nmsB at h
    split at h <;> try cases h
    simp only [Bool.and_eq_true, decide_eq_true_eq] at h
    obtain ⟨⟨rfl, h1⟩, h2⟩ := h
    obtain ⟨g1, g2⟩ := gl_of f h1
    exact .cons g1 g2 (nms_ok f h2)
theorem glast {l : List Expr} {a : Expr} (h : l.getLast? = some a) : l = l.dropLast ++ [a] := by
  obtain ⟨h1, h2⟩ := List.getLast?_eq_some_iff.mp h
  subst h2
  simp
theorem noSet {k : Ck} {c : E} {ex : Expr} (h : ckE k c ex = true) {env : Env} : ∀ x, foldedSetIterable ex env x = pure x := by
  cases ex <;> try exact fun _ => rfl
  cases c <;> simp [ckE, plainX] at h
mutual
theorem okE : ∀ (c : E) {X : Cx} {p : Px} {k : Ck} (S : Sok p X) (f : Fit X p k) {ex : Expr}, ckE k c ex = true → EOK X p ex c
  | .int i, X, p, k, S, f, ex, h => by
    unfold ckE at h; split at h <;> try cases h
    simp only [decide_eq_true_eq] at h; subst h
    exact .common (e_const pe_int (fun _ _ => by rw [ev]) fun _ _ _ _ => .int _) (by intro i; simp) rfl
  | .str s, X, p, k, S, f, ex, h => by
    unfold ckE at h; split at h <;> try cases h
    simp only [decide_eq_true_eq] at h; subst h
    exact .common (e_const pe_str (fun _ _ => by rw [ev]) fun _ _ _ _ => .str _) (by intro i; simp) rfl
  | .bl b, X, p, k, S, f, ex, h => by
    unfold ckE at h; split at h <;> try cases h
    simp only [decide_eq_true_eq] at h; subst h
    exact .common (e_const pe_bl (fun _ _ => by rw [ev]) fun _ _ _ _ => .bl _) (by intro i; simp) rfl
  | .non, X, p, k, S, f, ex, h => by
    unfold ckE at h; split at h <;> try cases h
    exact .common (e_const pe_non (fun _ _ => by rw [ev]) fun _ _ _ _ => .non) (by intro i; simp) rfl
  | .var i, X, p, k, S, f, ex, h => by
    unfold ckE at h; split at h <;> try cases h
    obtain ⟨h1, h2, h3, h4⟩ := var_of f h
    exact e_var h1 h2 h3 h4
  | .mov i, X, p, k, S, f, ex, h => by
    unfold ckE at h; split at h <;> try cases h
    obtain ⟨h1, h2, h3, h4⟩ := var_of f h
    exact .common (e_mov h1 h2 h3 h4) (by intro i; simp) rfl
  | .gl x, X, p, k, S, f, ex, h => by
    unfold ckE at h; split at h <;> try cases h
    simp only [Bool.and_eq_true, decide_eq_true_eq] at h
    obtain ⟨rfl, h⟩ := h
    obtain ⟨h1, h2⟩ := gl_of f h
    exact .common (e_gl S h1 h2) (by intro i; simp) rfl
  | .bin op es, X, p, k, S, f, ex, h => by
    unfold ckE at h; split at h <;> try cases h
    simp only [Bool.and_eq_true, decide_eq_true_eq] at h
    obtain ⟨rfl, h⟩ := h
    exact .common (pe_ebin S.K (okEs es S f h).pes) (by intro i; simp) rfl
  | .neg c, X, p, k, S, f, ex, h => by
    unfold ckE at h; split at h <;> try cases h
    exact .mk1 (e_neg (okE c S f h).pe) (by intro i; simp) (fun _ => rfl) (fun _ => rfl) (fun op => by cases op <;> rfl) (fun _ _ _ _ e => by cases e)
  | .not c, X, p, k, S, f, ex, h => by
    unfold ckE at h; split at h <;> try cases h
    have := okE c S f h
    exact .test (e_not this.pe) (t_not this.pt) (by intro i; simp) (fun _ => rfl) (fun op => by cases op <;> rfl) (fun _ _ _ _ e => by cases e)
  | .and es, X, p, k, S, f, ex, h => by
    unfold ckE at h; split at h <;> try cases h
    rename_i l pos
    simp only [Bool.and_eq_true] at h
    have q := okEs es S f h.2
    cases l with
    | nil => simp at h
    | cons a l => exact .test (e_and' q) (t_and' q) (by intro i; simp) (fun _ => rfl) (fun op => by cases op <;> rfl) (fun _ _ _ _ e => by cases e)
  | .or es, X, p, k, S, f, ex, h => by
    unfold ckE at h; split at h <;> try cases h
    rename_i l pos
    simp only [Bool.and_eq_true] at h
    have q := okEs es S f h.2
    cases l with
    | nil => simp at h
    | cons a l => exact .test (e_or' q) (t_or' q) (by intro i; simp) (fun _ => rfl) (fun op => by cases op <;> rfl) (fun _ _ _ _ e => by cases e)
  | .ite c a b, X, p, k, S, f, ex, h => by
    unfold ckE at h; split at h <;> try cases h
    simp only [Bool.and_eq_true] at h
    have h1 := okE c S f h.1.1
    have h2 := okE a S f h.1.2
    have h3 := okE b S f h.2
    exact .test (e_ite h1 h2 h3) (t_ite h1 h2 h3) (by intro i; simp) (fun _ => rfl) (fun op => by cases op <;> rfl) (fun _ _ _ _ e => by cases e)
  | .cmp op es, X, p, k, S, f, ex, h => by
    unfold ckE at h; split at h <;> try cases h
    simp only [Bool.and_eq_true, decide_eq_true_eq] at h
    obtain ⟨rfl, h⟩ := h
    have q := okEs es S f h
    exact .test (e_cmp S q) (t_cmp S q) (by intro i; simp) (fun _ => rfl) (fun op => by cases op <;> rfl) (fun _ _ _ _ e => by cases e)
  | .chn o1 o2 es c, X, p, k, S, f, ex, h => by
    unfold ckE at h; split at h <;> try cases h
    simp only [Bool.and_eq_true, decide_eq_true_eq] at h
    obtain ⟨⟨⟨rfl, rfl⟩, h⟩, h'⟩ := h
    have q := okEs es S f h
    have q' := okE c S f h'
    exact .test (e_chn S q q') (t_chn S q q') (by intro i; simp) (fun _ => rfl) (fun op => by cases op <;> rfl) (fun _ _ _ _ e => by cases e)
  | .tup es, X, p, k, S, f, ex, h => by
    unfold ckE at h; split at h <;> try cases h
    exact .common (e_tup (okEs es S f h)) (by intro i; simp) rfl
  | .lst l es, X, p, k, S, f, ex, h => by
    unfold ckE at h; split at h <;> try cases h
    exact .common (e_lst (okEs es S f h)) (by intro i; simp) rfl
  | .call pu g es, X, p, k, S, f, ex, h => by
    unfold ckE at h; split at h <;> try cases h
    simp only [Bool.and_eq_true, decide_eq_true_eq] at h
    obtain ⟨⟨⟨rfl, h1⟩, h2⟩, h3⟩ := h
    obtain ⟨g1, g2⟩ := gl_of f h1
    exact .common (e_call S (f.dn _ h2) g1 g2 (okEs es S f h3)) (by intro i; simp) rfl
  | .blt g es, X, p, k, S, f, ex, h => by
    unfold ckE at h; split at h <;> try cases h
    rw [Bool.and_eq_true] at h
    obtain ⟨hk, h⟩ := h
    have hq : hotF g = true → p.hot = false := fun q => by
      rw [q, Bool.true_and, Bool.not_eq_true'] at hk
      rw [f.hot]; exact hk
    simp only [Bool.and_eq_true, decide_eq_true_eq] at h
    obtain ⟨⟨rfl, h1⟩, h3⟩ := h
    obtain ⟨g1, g2⟩ := gl_of f h1
    exact .common (e_blt S hq g1 (okEs es S f h3)) (by intro i; simp) rfl
  | .mth m os es, X, p, k, S, f, ex, h => by
    unfold ckE at h; split at h <;> try cases h
    rename_i o n ap l cp
    simp only [Bool.and_eq_true, decide_eq_true_eq] at h
    obtain ⟨⟨⟨⟨⟨rfl, h2⟩, h3⟩, h4⟩, h5⟩, h6⟩ := h
    have hb : attributeBase o m.name X.env (eval o X.env) = eval o X.env := by
      cases o <;> first | rfl | cases h2
    exact .common (e_mth S (okEs os S f h5) (okEs es S f h6) h4 hb h3) (by intro i; simp) rfl
  | .chv m i es, X, p, k, S, f, ex, h => by
    unfold ckE at h; split at h <;> try cases h
    simp only [Bool.and_eq_true, decide_eq_true_eq] at h
    obtain ⟨⟨⟨⟨rfl, h2⟩, h3⟩, h4⟩, h5⟩ := h
    obtain ⟨g1, g2, g3, g4⟩ := var_of f h2
    exact .common (e_chv S (okEs es S f h5) h4 g1 g2 g3 g4 h3) (by intro i; simp) rfl
  | .cho m c es, X, p, k, S, f, ex, h => by
    unfold ckE at h; split at h <;> try cases h
    rename_i o n ap l cp
    simp only [Bool.and_eq_true, decide_eq_true_eq] at h
    obtain ⟨⟨⟨⟨⟨rfl, h2⟩, h3⟩, h4⟩, h5⟩, h6⟩ := h
    have hb : attributeBase o m.name X.env (eval o X.env) = eval o X.env := by
      cases o <;> first | rfl | cases h2
    exact .common (e_cho S (okE c S f h5) (okEs es S f h6) h4 hb h3) (by intro i; simp) rfl
  | .sub es, X, p, k, S, f, ex, h => by
    unfold ckE at h; split at h <;> try cases h
    exact .common (e_sub S (okEs es S f h)) (by intro i; simp) rfl
  | .slc n es, X, p, k, S, f, ex, h => by
    unfold ckE at h; split at h <;> try cases h
    split at h <;> try cases h
    · rename_i c
      exact .common (e_slc0 S (okE c S f h)) (by intro i; simp) rfl
    · rename_i c d x
      simp only [Bool.and_eq_true] at h
      exact .common (e_slc1 S (okE c S f h.1) (okE d S f h.2)) (by intro i; simp) rfl
    · rename_i c d x
      simp only [Bool.and_eq_true] at h
      exact .common (e_slc2 S (okE c S f h.1) (okE d S f h.2)) (by intro i; simp) rfl
    · split at h <;> try cases h
      rename_i c
      simp only [Bool.and_eq_true, decide_eq_true_eq] at h
      obtain ⟨rfl, h⟩ := h
      exact .common (e_slc4 S (okE c S f h)) (by intro i; simp) rfl
  | .slb es c, X, p, k, S, f, ex, h => by
    unfold ckE at h; split at h <;> try cases h
    simp only [Bool.and_eq_true] at h
    exact .common (e_slc3 S (okEs es S f h.1) (okE c S f h.2)) (by intro i; simp) rfl
  | .dct ll es, X, p, k, S, f, ex, h => by
    unfold ckE at h; split at h <;> try cases h
    obtain ⟨hq, h⟩ := f.hq h
    split at h <;> try cases h
    rename_i l hl
    simp only [Bool.and_eq_true, decide_eq_true_eq] at h
    exact .common (e_dct hl h.1 fun z' => okEs es (S.at hq z') (f.at z') h.2) (by intro i; simp) rfl
  | .stt es c, X, p, k, S, f, ex, h => by
    unfold ckE at h; split at h <;> try cases h
    split at h <;> try cases h
    rename_i l _ _ _ a sp hl
    simp only [Bool.and_eq_true] at h
    rw [glast hl]
    exact .common (e_stt S (okEs es S f h.1) (okE c S f h.2)) (by intro i; simp) rfl
  | .gds x c, X, p, k, S, f, ex, h => by
    unfold ckE at h; split at h <;> try cases h
    simp only [Bool.and_eq_true, decide_eq_true_eq] at h
    obtain ⟨⟨rfl, h1⟩, h2⟩ := h
    obtain ⟨g1, g2⟩ := gl_of f h1
    exact .common (e_gds S g1 g2 (okE c S f h2)) (by intro i; simp) rfl
  | .gdi n x c, X, p, k, S, f, ex, h => by
    unfold ckE at h; split at h <;> try cases h
    simp only [Bool.and_eq_true, decide_eq_true_eq] at h
    obtain ⟨⟨⟨rfl, rfl⟩, h1⟩, h2⟩ := h
    obtain ⟨g1, g2⟩ := gl_of f h1
    have q := okE c S f h2
    exact .test (e_gdi S g1 g2 q) (t_gdi S g1 g2 q) (by intro i; simp) (fun _ => rfl) (fun op => by cases op <;> rfl) (fun _ _ _ _ e => by cases e)
  | .gdg x es, X, p, k, S, f, ex, h => by
    unfold ckE at h; split at h <;> try cases h
    simp only [Bool.and_eq_true, decide_eq_true_eq] at h
    obtain ⟨⟨⟨⟨⟨rfl, rfl⟩, h1⟩, h3⟩, h4⟩, h6⟩ := h
    obtain ⟨g1, g2⟩ := gl_of f h1
    exact .common (e_gdg S g1 g2 (okEs es S f h6) h4 rfl h3) (by intro i; simp) rfl
  | .comp ll c t it cs own, X, p, k, S, f, ex, h => by
    unfold ckE at h; split at h <;> try cases h
    rename_i elt tg iter ifs scope pos
    obtain ⟨hq, h⟩ := f.hq h
    simp only [Bool.and_eq_true] at h
    obtain ⟨⟨⟨⟨⟨⟨h1, h2⟩, h3⟩, h4⟩, h5⟩, h6⟩, h7⟩ := h
    obtain ⟨g1, g2⟩ := okI it S f h2
    refine .mk1 (e_comp S hq g1 g2 (blkOk_by (by rw [f.N, f.sc]; exact h1)) (fun i hi => by simpa using (List.all_eq_true.mp h3) i hi) ⟨fun s H C cl fp z' => okT t (S.blk hq s H scope C cl fp z') (f.blk s H scope C cl fp z') h4⟩
      ⟨fun s H C cl fp z' => okE c (S.blk hq s H scope C cl fp z') (f.blk s H scope C cl fp z') h5⟩ ?_) (by intro i; simp) (fun _ => rfl) (fun _ => rfl) (fun op => by cases op <;> rfl) (fun _ _ _ _ e => by cases e)
    have q := fun s H C cl fp z' => okEs cs (S.blk hq s H scope C cl fp z') (f.blk s H scope C cl fp z') h7
    cases cs with
    | nil =>
      unfold ckEs at h7
      cases ifs with
      | nil => exact .nil
      | cons _ _ => cases h7
    | cons d r =>
      cases r with
      | cons _ _ => cases h6
      | nil =>
        unfold ckEs at h7
        cases ifs with
        | nil => cases h7
        | cons a l =>
          cases l with
          | nil => exact .one ⟨fun s H C cl fp z' => by cases q s H C cl fp z' with | cons q _ => exact q⟩
          | cons _ _ => simp [ckEs] at h7
  | .cms ll c t o cs own, X, p, k, S, f, ex, h => by
    unfold ckE at h; split at h <;> try cases h
    rename_i elt tg iter ifs scope pos
    obtain ⟨hq, h⟩ := f.hq h
    simp only [Bool.and_eq_true] at h
    obtain ⟨⟨⟨⟨⟨⟨h1, h2⟩, h3⟩, h4⟩, h5⟩, h6⟩, h7⟩ := h
    obtain ⟨h2a, h2⟩ := h2
    refine .mk1 (e_cms S hq (pi_list (okE o S f h2).pe) (iterB_ok h2a) (blkOk_by (by rw [f.N, f.sc]; exact h1)) (fun i hi => by simpa using (List.all_eq_true.mp h3) i hi) ⟨fun s H C cl fp z' => okT t (S.blk hq s H scope C cl fp z') (f.blk s H scope C cl fp z') h4⟩
      ⟨fun s H C cl fp z' => okE c (S.blk hq s H scope C cl fp z') (f.blk s H scope C cl fp z') h5⟩ ?_) (by intro i; simp) (fun _ => rfl) (fun _ => rfl) (fun op => by cases op <;> rfl) (fun _ _ _ _ e => by cases e)
    have q := fun s H C cl fp z' => okEs cs (S.blk hq s H scope C cl fp z') (f.blk s H scope C cl fp z') h7
    cases cs with
    | nil =>
      unfold ckEs at h7
      cases ifs with
      | nil => exact .nil
      | cons _ _ => cases h7
    | cons d r =>
      cases r with
      | cons _ _ => cases h6
      | nil =>
        unfold ckEs at h7
        cases ifs with
        | nil => cases h7
        | cons a l =>
          cases l with
          | nil => exact .one ⟨fun s H C cl fp z' => by cases q s H C cl fp z' with | cons q _ => exact q⟩
          | cons _ _ => simp [ckEs] at h7
  | .cmd ll c t j cs own, X, p, k, S, f, ex, h => by
    unfold ckE at h; split at h <;> try cases h
    rename_i elt tg v vp ifs scope pos
    obtain ⟨hq, h⟩ := f.hq h
    simp only [Bool.and_eq_true] at h
    obtain ⟨⟨⟨⟨⟨⟨h1, h2⟩, h3⟩, h4⟩, h5⟩, h6⟩, h7⟩ := h
    obtain ⟨g1, g2, g3, g4⟩ := var_of f h2
    refine .mk1 (e_cmd S hq (pi_keys (pe_var g1 g2 g3 g4)) (fun _ => rfl) (blkOk_by (by rw [f.N, f.sc]; exact h1)) (fun i hi => by simpa using (List.all_eq_true.mp h3) i hi) ⟨fun s H C cl fp z' => okT t (S.blk hq s H scope C cl fp z') (f.blk s H scope C cl fp z') h4⟩
      ⟨fun s H C cl fp z' => okE c (S.blk hq s H scope C cl fp z') (f.blk s H scope C cl fp z') h5⟩ ?_) (by intro i; simp) (fun _ => rfl) (fun _ => rfl) (fun op => by cases op <;> rfl) (fun _ _ _ _ e => by cases e)
    have q := fun s H C cl fp z' => okEs cs (S.blk hq s H scope C cl fp z') (f.blk s H scope C cl fp z') h7
    cases cs with
    | nil =>
      unfold ckEs at h7
      cases ifs with
      | nil => exact .nil
      | cons _ _ => cases h7
    | cons d r =>
      cases r with
      | cons _ _ => cases h6
      | nil =>
        unfold ckEs at h7
        cases ifs with
        | nil => cases h7
        | cons a l =>
          cases l with
          | nil => exact .one ⟨fun s H C cl fp z' => by cases q s H C cl fp z' with | cons q _ => exact q⟩
          | cons _ _ => simp [ckEs] at h7
  | .cmo ll c t j cs own, X, p, k, S, f, ex, h => by
    unfold ckE at h; split at h <;> try cases h
    rename_i elt tg v vp ifs scope pos
    obtain ⟨hq, h⟩ := f.hq h
    simp only [Bool.and_eq_true] at h
    obtain ⟨⟨⟨⟨⟨⟨h1, h2⟩, h3⟩, h4⟩, h5⟩, h6⟩, h7⟩ := h
    obtain ⟨g1, g2, g3, g4⟩ := var_of f h2
    refine .mk1 (e_cmo S hq (pi_list (pe_var g1 g2 g3 g4)) (fun _ => rfl) (blkOk_by (by rw [f.N, f.sc]; exact h1)) (fun i hi => by simpa using (List.all_eq_true.mp h3) i hi) ⟨fun s H C cl fp z' => okT t (S.blk hq s H scope C cl fp z') (f.blk s H scope C cl fp z') h4⟩
      ⟨fun s H C cl fp z' => okE c (S.blk hq s H scope C cl fp z') (f.blk s H scope C cl fp z') h5⟩ ?_) (by intro i; simp) (fun _ => rfl) (fun _ => rfl) (fun op => by cases op <;> rfl) (fun _ _ _ _ e => by cases e)
    have q := fun s H C cl fp z' => okEs cs (S.blk hq s H scope C cl fp z') (f.blk s H scope C cl fp z') h7
    cases cs with
    | nil =>
      unfold ckEs at h7
      cases ifs with
      | nil => exact .nil
      | cons _ _ => cases h7
    | cons d r =>
      cases r with
      | cons _ _ => cases h6
      | nil =>
        unfold ckEs at h7
        cases ifs with
        | nil => cases h7
        | cons a l =>
          cases l with
          | nil => exact .one ⟨fun s H C cl fp z' => by cases q s H C cl fp z' with | cons q _ => exact q⟩
          | cons _ _ => simp [ckEs] at h7
  | .dcm ll c c2 t it cs own, X, p, k, S, f, ex, h => by
    unfold ckE at h; split at h <;> try cases h
    rename_i kx vx tg iter ifs scope pos
    obtain ⟨hq, h⟩ := f.hq h
    simp only [Bool.and_eq_true] at h
    obtain ⟨⟨⟨⟨⟨⟨⟨h1, h2⟩, h3⟩, h4⟩, h5⟩, h55⟩, h6⟩, h7⟩ := h
    obtain ⟨g1, g2⟩ := okI it S f h2
    refine .mk1 (e_dcm S hq g1 g2 (blkOk_by (by rw [f.N, f.sc]; exact h1)) (fun i hi => by simpa using (List.all_eq_true.mp h3) i hi) ⟨fun s H C cl fp z' => okT t (S.blk hq s H scope C cl fp z') (f.blk s H scope C cl fp z') h4⟩
      ⟨fun s H C cl fp z' => okE c (S.blk hq s H scope C cl fp z') (f.blk s H scope C cl fp z') h5⟩ ⟨fun s H C cl fp z' => okE c2 (S.blk hq s H scope C cl fp z') (f.blk s H scope C cl fp z') h55⟩ ?_) (by intro i; simp) (fun _ => rfl) (fun _ => rfl) (fun op => by cases op <;> rfl) (fun _ _ _ _ e => by cases e)
    have q := fun s H C cl fp z' => okEs cs (S.blk hq s H scope C cl fp z') (f.blk s H scope C cl fp z') h7
    cases cs with
    | nil =>
      unfold ckEs at h7
      cases ifs with
      | nil => exact .nil
      | cons _ _ => cases h7
    | cons d r =>
      cases r with
      | cons _ _ => cases h6
      | nil =>
        unfold ckEs at h7
        cases ifs with
        | nil => cases h7
        | cons a l =>
          cases l with
          | nil => exact .one ⟨fun s H C cl fp z' => by cases q s H C cl fp z' with | cons q _ => exact q⟩
          | cons _ _ => simp [ckEs] at h7
  | .atr cs g es, X, p, k, S, f, ex, h => by
    unfold ckE at h; split at h <;> try cases h
    rename_i o n pos
    simp only [Bool.and_eq_true, decide_eq_true_eq] at h
    obtain ⟨⟨⟨rfl, h1⟩, h2⟩, h3⟩ := h
    have hb : ∀ x, attributeBase o g X.env x = x := by cases o <;> first | exact fun _ => rfl | cases h1
    exact .common (e_atr S (okEs es S f h3) (fun c hc => by rw [f.ct]; simpa using (List.all_eq_true.mp h2) c hc) (hb _)) (by intro i; simp) rfl
  | .new pu c key es, X, p, k, S, f, ex, h => by
    unfold ckE at h; split at h <;> try cases h
    simp only [Bool.and_eq_true, decide_eq_true_eq] at h
    obtain ⟨⟨⟨rfl, h1⟩, h2⟩, h3⟩ := h
    obtain ⟨g1, g2⟩ := gl_of f h1
    exact .common (e_new S (by rw [f.ct]; exact h2) g1 g2 (okEs es S f h3)) (by intro i; simp) rfl
  | .met pu cs m os es, X, p, k, S, f, ex, h => by
    unfold ckE at h; split at h <;> try cases h
    rename_i o n ap l cp
    simp only [Bool.and_eq_true, decide_eq_true_eq] at h
    obtain ⟨⟨⟨⟨⟨⟨rfl, h1⟩, h2⟩, h3⟩, h4⟩, h5⟩, h6⟩ := h
    have hb : ∀ x, attributeBase o m X.env x = x := by cases o <;> first | exact fun _ => rfl | cases h1
    exact .common (e_met S (okEs os S f h5) (okEs es S f h6) h3 (fun c hc => by rw [f.ct]; simpa using (List.all_eq_true.mp h4) c hc) (hb _) h2) (by intro i; simp) rfl
  | .lri it, X, p, k, S, f, ex, h => by
    unfold ckE at h; split at h <;> try cases h
    obtain ⟨hq, h⟩ := f.hq h
    simp only [Bool.and_eq_true, decide_eq_true_eq] at h
    obtain ⟨⟨⟨⟨rfl, h1⟩, rfl⟩, h2⟩, h3⟩ := h
    split at h3 <;> try cases h3
    · exact .common (e_lri1 S hq (gl_of f h1).1 (gl_of f h2).1 (okE _ S f h3)) (by intro i; simp) rfl
    · simp only [Bool.and_eq_true] at h3
      exact .common (e_lri2 S hq (gl_of f h1).1 (gl_of f h2).1 (okE _ S f h3.1) (okE _ S f h3.2)) (by intro i; simp) rfl
  | .mxd d es, X, p, k, S, f, ex, h => by
    unfold ckE at h; split at h <;> try cases h
    obtain ⟨hq, h⟩ := f.hq h
    simp only [Bool.and_eq_true, decide_eq_true_eq] at h
    obtain ⟨⟨⟨⟨rfl, h1⟩, rfl⟩, rfl⟩, h4⟩ := h
    exact .common (e_mxd S hq (okEs es S f h4) (gl_of f h1).1) (by intro i; simp) rfl
  | .isc c es, X, p, k, S, f, ex, h => by
    unfold ckE at h; split at h <;> try cases h
    simp only [Bool.and_eq_true, decide_eq_true_eq] at h
    obtain ⟨⟨⟨⟨⟨rfl, h1⟩, rfl⟩, h2⟩, h3⟩, h4⟩ := h
    obtain ⟨g1, g2⟩ := gl_of f h2
    exact .common (e_isc S (okEs es S f h4) (gl_of f h1).1 g1 (by rw [f.ct]; exact h3) g2) (by intro i; simp) rfl
  | .prp cs g es, X, p, k, S, f, ex, h => by
    unfold ckE at h; split at h <;> try cases h
    rename_i o n pos
    simp only [Bool.and_eq_true, decide_eq_true_eq] at h
    obtain ⟨⟨⟨rfl, h1⟩, h2⟩, h3⟩ := h
    have hb : ∀ x, attributeBase o g X.env x = x := by cases o <;> first | exact fun _ => rfl | cases h1
    exact .common (e_prp S (okEs es S f h3) (fun c hc => by rw [f.ct]; simpa using (List.all_eq_true.mp h2) c hc) (hb _)) (by intro i; simp) rfl
  | .opm cs es, X, p, k, S, f, ex, h => by
    unfold ckE at h; split at h <;> try cases h
    simp only [Bool.and_eq_true, decide_eq_true_eq] at h
    obtain ⟨⟨rfl, h2⟩, h3⟩ := h
    exact .common (e_opm S (okEs es S f h3) (fun c hc => by rw [f.ct]; simpa using (List.all_eq_true.mp h2) c hc)) (by intro i; simp) rfl
  | .vls m es, X, p, k, S, f, ex, h => by
    unfold ckE at h; split at h <;> try cases h
    · rename_i g gp o n ap mp pos
      obtain ⟨hq, h⟩ := f.hq h
      simp only [Bool.and_eq_true, decide_eq_true_eq] at h
      obtain ⟨⟨⟨⟨⟨rfl, h1⟩, rfl⟩, h2⟩, h3⟩, h4⟩ := h
      have hb : attributeBase o ("values" : Str) X.env (eval o X.env) = eval o X.env := by
        cases o <;> first | rfl | cases h2
      exact .common (e_vls S hq (okEs es S f h4) (gl_of f h1).1 hb h3) (by intro i; simp) rfl
    · rename_i g gp g2 gp2 o mp pos
      obtain ⟨hq, h⟩ := f.hq h
      simp only [Bool.and_eq_true, decide_eq_true_eq] at h
      obtain ⟨⟨⟨⟨rfl, h1⟩, rfl⟩, h2⟩, h4⟩ := h
      exact .common (e_lns S hq (okEs es S f h4) (gl_of f h1).1 (gl_of f h2).1) (by intro i; simp) rfl
  | .xis i tp cs ys ns, X, p, k, S, f, ex, h => by
    unfold ckE at h; split at h <;> try cases h
    simp only [Bool.and_eq_true, decide_eq_true_eq, List.all_eq_true] at h
    obtain ⟨⟨⟨⟨⟨⟨⟨h0, rfl⟩, h1⟩, h2⟩, h3⟩, h4⟩, h5⟩, h6⟩ := h
    have hq : p.hot = true := by rw [f.hot]; exact h0
    obtain ⟨g1, g2, g3, g4⟩ := var_of f h2
    have hy : ∀ y ∈ ys, (y, cs, true) ∈ p.ct.xi := fun y hy => by rw [f.ct]; exact h4 y hy
    have hn : ∀ y ∈ ns, (y, cs, false) ∈ p.ct.xi := fun y hy => by rw [f.ct]; exact h5 y hy
    split at h6 <;> try cases h6
    · simp only [Bool.and_eq_true, decide_eq_true_eq] at h6
      obtain ⟨rfl, h7⟩ := h6
      exact .common (e_xis1 S hq g1 g2 g3 g4 (gl_of f h1).1 (gl_of f h7).1 (gl_of f h7).2 hy hn) (by intro i; simp) rfl
    · exact .common (e_xisT S hq g1 g2 g3 g4 (gl_of f h1).1 (nms_ok f h6) h3 hy hn) (by intro i; simp) rfl
  | .xfl i cs n, X, p, k, S, f, ex, h => by
    unfold ckE at h; split at h <;> try cases h
    simp only [Bool.and_eq_true, decide_eq_true_eq, List.all_eq_true] at h
    obtain ⟨⟨⟨h0, rfl⟩, h2⟩, h3⟩ := h
    have hq : p.hot = true := by rw [f.hot]; exact h0
    obtain ⟨g1, g2, g3, g4⟩ := var_of f h2
    exact .common (e_xfl S hq g1 g2 g3 g4 fun c hc => by rw [f.ct]; exact h3 c hc) (by intro i; simp) rfl
  | .nev, X, p, k, S, f, ex, h => by
    unfold ckE at h
    refine .common ⟨fun pins s σ H Q I ⟨F, io, e, st, _, q⟩ => ?_⟩ (by intro i; simp) h
    rw [ev] at q
    exact q.elim
theorem okEs : ∀ (c : Es) {X : Cx} {p : Px} {k : Ck} (S : Sok p X) (f : Fit X p k) {l : List Expr}, ckEs k c l = true → EsOK X p c l
  | .nil, X, p, k, S, f, l, h => by
    unfold ckEs at h
    cases l with
    | nil => exact .nil
    | cons _ _ => cases h
  | .cons c r, X, p, k, S, f, l, h => by
    unfold ckEs at h
    cases l with
    | nil => cases h
    | cons a l =>
      simp only [Bool.and_eq_true] at h
      exact .cons (okE c S f h.1) (okEs r S f h.2)
theorem okI : ∀ (it : I) {X : Cx} {p : Px} {k : Ck} (S : Sok p X) (f : Fit X p k) {tg ex : Expr}, ckI k it tg ex = true → PI X tg ex (tit p it) ∧ ∀ x, foldedSetIterable ex X.env x = pure x
  | .it c, X, p, k, S, f, tg, ex, h => by
    unfold ckI at h
    exact ⟨i_it S (okE c S f h), noSet (k := k) (c := c) h⟩
  | .rg1 c, X, p, k, S, f, tg, ex, h => by
    unfold ckI at h; split at h <;> try cases h
    simp only [Bool.and_eq_true, decide_eq_true_eq] at h
    obtain ⟨⟨rfl, h1⟩, h2⟩ := h
    exact ⟨i_rg1 S (gl_of f h1).1 (okE c S f h2), fun _ => rfl⟩
  | .rg2 c d, X, p, k, S, f, tg, ex, h => by
    unfold ckI at h; split at h <;> try cases h
    simp only [Bool.and_eq_true, decide_eq_true_eq] at h
    obtain ⟨⟨⟨rfl, h1⟩, h2⟩, h3⟩ := h
    exact ⟨i_rg2 S (gl_of f h1).1 (okE c S f h2) (okE d S f h3), fun _ => rfl⟩
  | .rev c, X, p, k, S, f, tg, ex, h => by
    unfold ckI at h; split at h <;> try cases h
    simp only [Bool.and_eq_true, decide_eq_true_eq] at h
    obtain ⟨⟨rfl, h1⟩, h2⟩ := h
    exact ⟨i_rev S (gl_of f h1).1 (okE c S f h2), fun _ => rfl⟩
  | .rv1 c, X, p, k, S, f, tg, ex, h => by
    unfold ckI at h; split at h <;> try cases h
    simp only [Bool.and_eq_true, decide_eq_true_eq] at h
    obtain ⟨⟨⟨⟨rfl, h1⟩, rfl⟩, h2⟩, h3⟩ := h
    exact ⟨i_rv1 S (gl_of f h1).1 (gl_of f h2).1 (okE c S f h3), fun _ => rfl⟩
  | .rv2 c d, X, p, k, S, f, tg, ex, h => by
    unfold ckI at h; split at h <;> try cases h
    simp only [Bool.and_eq_true, decide_eq_true_eq] at h
    obtain ⟨⟨⟨⟨⟨rfl, h1⟩, rfl⟩, h2⟩, h3⟩, h4⟩ := h
    exact ⟨i_rv2 S (gl_of f h1).1 (gl_of f h2).1 (okE c S f h3) (okE d S f h4), fun _ => rfl⟩
  | .zip c d, X, p, k, S, f, tg, ex, h => by
    unfold ckI at h; split at h <;> try cases h
    simp only [Bool.and_eq_true, decide_eq_true_eq] at h
    obtain ⟨⟨⟨⟨rfl, h1⟩, h2⟩, h3⟩, h4⟩ := h
    cases tg <;> try cases h4
    exact ⟨i_zip S (gl_of f h1).1 (okE c S f h2) (okE d S f h3), fun _ => rfl⟩
  | .enu c, X, p, k, S, f, tg, ex, h => by
    unfold ckI at h; split at h <;> try cases h
    simp only [Bool.and_eq_true, decide_eq_true_eq] at h
    obtain ⟨⟨⟨rfl, h1⟩, h2⟩, h4⟩ := h
    cases tg <;> try cases h4
    exact ⟨i_enu S (gl_of f h1).1 (okE c S f h2), fun _ => rfl⟩
  | .ens c n, X, p, k, S, f, tg, ex, h => by
    unfold ckI at h; split at h <;> try cases h
    simp only [Bool.and_eq_true, decide_eq_true_eq] at h
    obtain ⟨⟨⟨⟨⟨rfl, rfl⟩, rfl⟩, h1⟩, h2⟩, h4⟩ := h
    cases tg <;> try cases h4
    exact ⟨i_ens S (gl_of f h1).1 (okE c S f h2), fun _ => rfl⟩
theorem okT : ∀ (t : T) {X : Cx} {p : Px} {k : Ck} (S : Sok p X) (f : Fit X p k) {ex : Expr}, ckT k t ex = true → GOK X p ex t
  | .nm i, X, p, k, S, f, ex, h => by
    unfold ckT at h; split at h <;> try cases h
    simp only [Bool.and_eq_true, decide_eq_true_eq] at h
    obtain ⟨h1, h2⟩ := f.asn _ h.2
    exact ⟨g_name S.nd (by rw [f.N]; exact h.1) h1 h2, fun _ => rfl⟩
  | .tp ts, X, p, k, S, f, ex, h => by
    unfold ckT at h; split at h <;> try cases h
    obtain ⟨hq, h⟩ := f.hq h
    exact ⟨g_tup S.K (S.calm hq) (okTs ts S f h), fun _ => rfl⟩
  | .sbv n c, X, p, k, S, f, ex, h => by
    unfold ckT at h; split at h <;> try cases h
    simp only [Bool.and_eq_true] at h
    obtain ⟨h1, h2, h3, h4⟩ := var_of f h.1
    exact ⟨g_sbv (by have := S.hu; omega) h1 h2 h3 h4 (okE c S f h.2), fun _ => rfl⟩
  | .sbo c d, X, p, k, S, f, ex, h => by
    unfold ckT at h; split at h <;> try cases h
    simp only [Bool.and_eq_true] at h
    exact ⟨g_sbo (by have := S.hu; omega) (okE c S f h.1) (okE d S f h.2), fun _ => rfl⟩
theorem okTs : ∀ (t : Ts) {X : Cx} {p : Px} {k : Ck} (S : Sok p X) (f : Fit X p k) {l : List Expr}, ckTs k t l = true → GsOK X p t l
  | .nil, X, p, k, S, f, l, h => by
    unfold ckTs at h
    cases l with
    | nil => exact .nil
    | cons _ _ => cases h
  | .cons t r, X, p, k, S, f, l, h => by
    unfold ckTs at h
    cases l with
    | nil => cases h
    | cons a l =>
      simp only [Bool.and_eq_true] at h
      exact .cons (okT t S f h.1) (okTs r S f h.2)
end
theorem blkC_ok (S : Sok p X) (hq : p.hot = false) (f : Fit X p k) {scope : Scope} {cs : Es} {ifs : List Expr} (h6 : oneC cs = true) (h7 : ckEs (k.blk scope) cs ifs = true) : BlkC X p scope ifs cs := by
  have q := fun s H C cl fp z' => okEs cs (S.blk hq s H scope C cl fp z') (f.blk s H scope C cl fp z') h7
  cases cs with
  | nil =>
    unfold ckEs at h7
    cases ifs with
    | nil => exact .nil
    | cons _ _ => cases h7
  | cons d r =>
    cases r with
    | cons _ _ => cases h6
    | nil =>
      unfold ckEs at h7
      cases ifs with
      | nil => cases h7
      | cons a l =>
        cases l with
        | nil => exact .one ⟨fun s H C cl fp z' => by cases q s H C cl fp z' with | cons q _ => exact q⟩
        | cons _ _ => simp [ckEs] at h7
end
end Pv
namespace Pv
open PySem PySem.Spec PyProof.Rows L2
section
theorem noC {a : Expr} (h : noComp a = true) {t : Option Expr} {n : Nat} {env : Env} : swapsWith a t n env = pure false := by
  cases a <;> first | rfl | cases h
theorem loc_eq (env : Env) (x : Str) : (env.kindOf x == some NameKind.local) = locOnly env.scope x := by
  show (env.scope.names.lookup x == some NameKind.local) = _
  unfold locOnly
  cases env.scope.names.lookup x with
  | none => rfl
  | some k => cases k <;> rfl
theorem sw_eq {env : Env} {sc : Scope} (hk : env.scope.kind = .function) (hs : env.scope = sc) (tg a : Expr) (n : Nat) : swapsWith a (some tg) n env = pure (swapV sc tg a) := by
  have hb : env.blockKind = .function := by unfold Env.blockKind; rw [hk]; rfl
  subst hs
  cases a <;> first | rfl | (
    cases tg <;> first | rfl | (
      unfold swapsWith swapV
      simp only [hb, loc_eq]
      rfl))
theorem s_setC {c : E} {i : Nat} {sx : Stmt} {X : Cx} {p : Px} (h : PS X sx (fun D σ H => tev p c σ H fun x H1 => gName i x σ H1 D.nx)) : PS X sx (tst p (.set (.nm i) c)) := by
  refine PS.imp h fun D σ H ⟨F, io, e, st, s, k⟩ => ?_
  rw [xS] at k
  refine ⟨F, io, e, st, s, k.of_bind.mono (fun r e' st' k v H' po => ?_) fun _ _ _ x => x.xw⟩
  obtain ⟨F', io', y, s', hv⟩ := po
  rw [asg] at k
  split at k
  · rename_i hl
    exact k _ _ ⟨F', io', y, s'.put hv hl⟩
  · exact k.elim
theorem s_setK {c : E} {X : Cx} {p : Px} {t : T} {a tg : Expr} {pos : Pos} (h : EOK X p a c) (ht : GOK X p tg t) (hs : X.env.scope.kind = .function → swapsWith a (some tg) pos.line X.env = pure false) (hw : swappedStores [tg] a X.env = pure none) : PS X (.Assign [tg] a pos) (tst p (.set t c)) :=
  ⟨fun pins s σ H D I q => (s_set h ht (hs I.ok.kind) hw).run pins s σ H D I q⟩
theorem noT {a b : Expr} (h : (noTup a || noTup b) = true) {env : Env} : swappedStores [a] b env = pure none := by
  cases a <;> try rfl
  all_goals cases b <;> first | rfl | cases h
/-- name = [..], name = {..}: the forms that are stored by the block itself -/
theorem setC_ok {X : Cx} {p : Px} {k : Ck} (t : T) (c : E) (S : Sok p X) (f : Fit X p k) {tg a : Expr} {pos : Pos} (h1 : ckT k t tg = true) (h2 : ckE k c a = true) (h4 : swOK c = true) (hw : swapV k.sc tg a = true) : PS X (.Assign [tg] a pos) (tst p (.set t c)) := by
  cases c <;> simp [swOK] at h4
  · rename_i ll c t' it cs own
    unfold ckE at h2; split at h2 <;> try cases h2
    rename_i elt tg' iter ifs scope pos'
    obtain ⟨hq, h2⟩ := f.hq h2
    simp only [Bool.and_eq_true] at h2
    obtain ⟨⟨⟨⟨⟨⟨g1, g2⟩, g3⟩, g4⟩, g5⟩, g6⟩, g7⟩ := h2
    unfold swapV at hw
    cases tg <;> simp at hw
    rename_i y py
    obtain ⟨⟨w1, w2⟩, w3⟩ := hw
    cases t <;> simp [ckT] at h1
    rename_i i
    obtain ⟨k1, k2⟩ := okI it S f g2
    have hyl : X.env.scope.names.lookup y = some .local := by
      rw [f.sc]
      unfold locOnly at w1
      split at w1
      · assumption
      · cases w1
    refine s_setC (s_setLc S hq (by rw [f.N]; exact h1.1) hyl (by rw [beq_iff_eq]; exact w2) (by rw [List.any_eq_false]; intro x hx; have := w3 x.1 x.2 hx; obtain ⟨n, kk⟩ := x; simpa using this) k1 k2 (blkOk_by (by rw [f.N, f.sc]; exact g1)) (fun i hi => by simpa using (List.all_eq_true.mp g3) i hi) ⟨fun s H C cl fp z' => okT t' (S.blk hq s H scope C cl fp z') (f.blk s H scope C cl fp z') g4⟩
      ⟨fun s H C cl fp z' => okE c (S.blk hq s H scope C cl fp z') (f.blk s H scope C cl fp z') g5⟩ (blkC_ok S hq f g6 g7))
  · rename_i ll c c2 t' it cs own
    unfold ckE at h2; split at h2 <;> try cases h2
    rename_i kx vx tg' iter ifs scope pos'
    obtain ⟨hq, h2⟩ := f.hq h2
    simp only [Bool.and_eq_true] at h2
    obtain ⟨⟨⟨⟨⟨⟨⟨g1, g2⟩, g3⟩, g4⟩, g5⟩, g55⟩, g6⟩, g7⟩ := h2
    unfold swapV at hw
    cases tg <;> simp at hw
    rename_i y py
    obtain ⟨⟨w1, w2⟩, w3⟩ := hw
    cases t <;> simp [ckT] at h1
    rename_i i
    obtain ⟨k1, k2⟩ := okI it S f g2
    have hyl : X.env.scope.names.lookup y = some .local := by
      rw [f.sc]
      unfold locOnly at w1
      split at w1
      · assumption
      · cases w1
    refine s_setC (s_setDc S hq (by rw [f.N]; exact h1.1) hyl (by rw [beq_iff_eq]; exact w2) (by rw [List.any_eq_false]; intro x hx; have := w3 x.1 x.2 hx; obtain ⟨n, kk⟩ := x; simpa using this) k1 k2 (blkOk_by (by rw [f.N, f.sc]; exact g1)) (fun i hi => by simpa using (List.all_eq_true.mp g3) i hi) ⟨fun s H C cl fp z' => okT t' (S.blk hq s H scope C cl fp z') (f.blk s H scope C cl fp z') g4⟩
      ⟨fun s H C cl fp z' => okE c (S.blk hq s H scope C cl fp z') (f.blk s H scope C cl fp z') g5⟩ ⟨fun s H C cl fp z' => okE c2 (S.blk hq s H scope C cl fp z') (f.blk s H scope C cl fp z') g55⟩ (blkC_ok S hq f g6 g7))
  · rename_i ll c t' j cs own
    unfold ckE at h2; split at h2 <;> try cases h2
    rename_i elt tg' v vp ifs scope pos'
    obtain ⟨hq, h2⟩ := f.hq h2
    simp only [Bool.and_eq_true] at h2
    obtain ⟨⟨⟨⟨⟨⟨g1, g2⟩, g3⟩, g4⟩, g5⟩, g6⟩, g7⟩ := h2
    unfold swapV at hw
    cases tg <;> simp at hw
    rename_i y py
    obtain ⟨⟨w1, w2⟩, w3⟩ := hw
    cases t <;> simp [ckT] at h1
    rename_i i
    obtain ⟨v1, v2, v3, v4⟩ := var_of f g2
    have hyl : X.env.scope.names.lookup y = some .local := by
      rw [f.sc]
      unfold locOnly at w1
      split at w1
      · assumption
      · cases w1
    refine s_setC (s_setLd S hq (by rw [f.N]; exact h1.1) hyl (by rw [beq_iff_eq]; exact w2) (by rw [List.any_eq_false]; intro x hx; have := w3 x.1 x.2 hx; obtain ⟨n, kk⟩ := x; simpa using this) (pi_keys (pe_var v1 v2 v3 v4)) (fun _ => rfl) (blkOk_by (by rw [f.N, f.sc]; exact g1)) (fun i hi => by simpa using (List.all_eq_true.mp g3) i hi) ⟨fun s H C cl fp z' => okT t' (S.blk hq s H scope C cl fp z') (f.blk s H scope C cl fp z') g4⟩
      ⟨fun s H C cl fp z' => okE c (S.blk hq s H scope C cl fp z') (f.blk s H scope C cl fp z') g5⟩ (blkC_ok S hq f g6 g7))
  · rename_i ll c t' o cs own
    unfold ckE at h2; split at h2 <;> try cases h2
    rename_i elt tg' iter ifs scope pos'
    obtain ⟨hq, h2⟩ := f.hq h2
    simp only [Bool.and_eq_true] at h2
    obtain ⟨⟨⟨⟨⟨⟨g1, g2⟩, g3⟩, g4⟩, g5⟩, g6⟩, g7⟩ := h2
    unfold swapV at hw
    cases tg <;> simp at hw
    rename_i y py
    obtain ⟨⟨w1, w2⟩, w3⟩ := hw
    cases t <;> simp [ckT] at h1
    rename_i i
    obtain ⟨g2a, g2⟩ := g2
    have hyl : X.env.scope.names.lookup y = some .local := by
      rw [f.sc]
      unfold locOnly at w1
      split at w1
      · assumption
      · cases w1
    refine s_setC (s_setLs S hq (by rw [f.N]; exact h1.1) hyl (by rw [beq_iff_eq]; exact w2) (by rw [List.any_eq_false]; intro x hx; have := w3 x.1 x.2 hx; obtain ⟨n, kk⟩ := x; simpa using this) (pi_list (okE o S f g2).pe) (iterB_ok g2a) (blkOk_by (by rw [f.N, f.sc]; exact g1)) (fun i hi => by simpa using (List.all_eq_true.mp g3) i hi) ⟨fun s H C cl fp z' => okT t' (S.blk hq s H scope C cl fp z') (f.blk s H scope C cl fp z') g4⟩
      ⟨fun s H C cl fp z' => okE c (S.blk hq s H scope C cl fp z') (f.blk s H scope C cl fp z') g5⟩ (blkC_ok S hq f g6 g7))
/-- what a statement asks, that more than a block may hold -/
structure Stk (p : Px) (X : Cx) : Prop where
  po : p.hot = false → PassesOwn (model X.prog X.w) X.A X.env X.xe
  hs : p.hot = false → X.stack = X.env :: X.outer
  hf : p.hot = false → X.env.frame = some X.env.locals
theorem Sok.tr {X : Cx} {p : Px} (S : Sok p X) (hq : p.hot = false) {W : WX} {pn : List (Addr × Obj)} {xe : Value → Shared → Prop} (tk : Takes (X.tr pn xe) W) : Sok { p with W := W } (X.tr pn xe) :=
  ⟨S.K, S.mg, S.calm, S.nd, S.hu, tk, S.tab, S.glb, S.blt, S.att, S.new, S.met, S.prp, S.opn, S.exn, S.exk, fun h => by rw [show Px.hot { p with W := W } = p.hot from rfl, hq] at h; cases h⟩
theorem Fit.tr {X : Cx} {p : Px} {k : Ck} (f : Fit X p k) {W : WX} {pn : List (Addr × Obj)} {xe : Value → Shared → Prop} : Fit (X.tr pn xe) { p with W := W } k := ⟨f.N, f.sc, f.asn, f.dn, f.ct, f.hot⟩
theorem Fit.suite {X : Cx} {p : Px} {k : Ck} (f : Fit X p k) {z' : Zo} {a : Addr} {pn : List (Addr × Obj)} : Fit (X.suite a pn) (p.sui z') k.sui :=
  ⟨f.N, f.sc, f.asn, fun x h => by simp [Ck.sui] at h, by show p.ct.cold = k.ct.cold; rw [f.ct], rfl⟩
theorem Fit.iz {X : Cx} {p : Px} {k : Ck} (f : Fit X p k) (z' : Zo) : Fit X (p.iz z') k := ⟨f.N, f.sc, f.asn, f.dn, f.ct, f.hot⟩
theorem Stk.iz {X : Cx} {p : Px} (q : Stk p X) (z' : Zo) : Stk (p.iz z') X := ⟨q.po, q.hs, q.hf⟩
theorem Stk.suite {X : Cx} {p : Px} {z' : Zo} {a : Addr} {pn : List (Addr × Obj)} : Stk (p.sui z') (X.suite a pn) := ⟨(fun h => by cases h), (fun h => by cases h), (fun h => by cases h)⟩
mutual
theorem okS : ∀ (c : Pv.S) {X : Cx} {p : Px} {k : Ck} (S : Sok p X) (f : Fit X p k) (po : Stk p X) {sx : Stmt}, ckS k c sx = true → PS X sx (tst p c)
  | .sav n cs g c, X, p, k, S, f, po, sx, h => by
    unfold ckS at h; split at h <;> try cases h
    rename_i x xp y ap a pos
    simp only [Bool.and_eq_true, decide_eq_true_eq] at h
    obtain ⟨⟨⟨rfl, h1⟩, h2⟩, h3⟩ := h
    obtain ⟨g1, g2, g3, g4⟩ := var_of f h1
    have hw : swapV k.sc (.Attribute (.Name x xp) g ap) a = false := by unfold swapV; cases a <;> rfl
    exact ⟨fun pins s σ H D I q => (s_sav S g1 g2 g3 g4 (okE c S f h3) (fun c hc => by rw [f.ct]; simpa using (List.all_eq_true.mp h2) c hc) (by rw [sw_eq I.ok.kind f.sc, hw])).run pins s σ H D I q⟩
  | .sao co cs g c, X, p, k, S, f, po, sx, h => by
    unfold ckS at h; split at h <;> try cases h
    rename_i o y ap a pos
    simp only [Bool.and_eq_true, decide_eq_true_eq] at h
    obtain ⟨⟨⟨rfl, h2⟩, h1⟩, h3⟩ := h
    have hw : swapV k.sc (.Attribute o g ap) a = false := by unfold swapV; cases a <;> rfl
    exact ⟨fun pins s σ H D I q => (s_sao S (okE co S f h1) (okE c S f h3) (fun c hc => by rw [f.ct]; simpa using (List.all_eq_true.mp h2) c hc) (by rw [sw_eq I.ok.kind f.sc, hw])).run pins s σ H D I q⟩
  | .exp c, X, p, k, S, f, po, sx, h => by
    unfold ckS at h; split at h <;> try cases h
    simp only [Bool.and_eq_true] at h
    exact s_exp (okE c S f h.1) (noC h.2)
  | .set t c, X, p, k, S, f, po, sx, h => by
    unfold ckS at h; split at h <;> try cases h
    rename_i tg a pos
    simp only [Bool.and_eq_true] at h
    obtain ⟨⟨⟨h1, h2⟩, h3⟩, h4⟩ := h
    by_cases hw : swapV k.sc tg a = true
    · rw [if_pos hw] at h4
      exact setC_ok t c S f h1 h2 h4 hw
    · exact s_setK (okE c S f h2) (okT t S f h1) (fun hk => by rw [sw_eq hk f.sc, show swapV k.sc tg a = false by simpa using hw]) (noT h3)
  | .aug i op c, X, p, k, S, f, po, sx, h => by
    unfold ckS at h; split at h <;> try cases h
    simp only [Bool.and_eq_true, decide_eq_true_eq] at h
    obtain ⟨⟨⟨rfl, h1⟩, h2⟩, h3⟩ := h
    obtain ⟨g1, g2⟩ := f.asn _ h2
    exact s_aug S (by rw [f.N]; exact h1) g1 g2 (okE c S f h3)
  | .ifs c a b, X, p, k, S, f, po, sx, h => by
    unfold ckS at h; split at h <;> try cases h
    simp only [Bool.and_eq_true] at h
    exact s_ifs (okE c S f h.1.1) (okSs a S f po h.1.2) (okSs b S f po h.2)
  | .whl c b, X, p, k, S, f, po, sx, h => by
    unfold ckS at h; split at h <;> try cases h
    obtain ⟨hq, h⟩ := f.hq h
    simp only [Bool.and_eq_true] at h
    exact s_whl (po.po hq) (okE c S f h.1) (okSs b S f po h.2)
  | .for_ t it b, X, p, k, S, f, po, sx, h => by
    unfold ckS at h; split at h <;> try cases h
    obtain ⟨hq, h⟩ := f.hq h
    simp only [Bool.and_eq_true] at h
    exact s_for (po.po hq) (S.calm hq) (okI it S f h.1.2).1 (okT t S f h.1.1) (okSs b S f po h.2) (okI it S f h.1.2).2
  | .fos t o b, X, p, k, S, f, po, sx, h => by
    unfold ckS at h; split at h <;> try cases h
    obtain ⟨hq, h⟩ := f.hq h
    simp only [Bool.and_eq_true] at h
    exact s_fos (po.po hq) (S.calm hq) S.K (pi_list (okE o S f h.1.2.2).pe) (okT t S f h.1.1) (okSs b S f po h.2) (iterB_ok h.1.2.1)
  | .ret c, X, p, k, S, f, po, sx, h => by
    unfold ckS at h; split at h <;> try cases h
    exact s_ret (okE c S f h)
  | .rse c g ec, X, p, k, S, f, po, sx, h => by
    unfold ckS at h; split at h <;> try cases h
    · obtain ⟨hq, h⟩ := f.hq h
      simp only [Bool.and_eq_true, decide_eq_true_eq] at h
      obtain ⟨⟨⟨⟨rfl, h1⟩, h0⟩, h2⟩, h3⟩ := h
      obtain ⟨g1, g2⟩ := gl_of f h2
      exact s_rse S hq (by rw [f.ct]; exact h1) h0 (okEs ec S f h3) g1 g2
    · obtain ⟨hq, h⟩ := f.hq h
      cases ec with
      | cons _ _ => cases h
      | nil =>
        simp only [Bool.and_eq_true, decide_eq_true_eq, List.isEmpty_iff] at h
        obtain ⟨⟨⟨rfl, rfl⟩, h1⟩, h2⟩ := h
        obtain ⟨g1, g2⟩ := gl_of f h2
        exact s_rse0 S hq (by rw [f.ct]; exact h1) g1 g2
  | .fdk t m i b, X, p, k, S, f, po, sx, h => by
    unfold ckS at h; split at h <;> try cases h
    rename_i tg iter y pos
    obtain ⟨hq, h⟩ := f.hq h
    simp only [Bool.and_eq_true] at h
    obtain ⟨⟨h1, h2⟩, h3⟩ := h
    have go : ∀ {pi : PI X tg iter (wiK m i)} {hs : ∀ x, foldedSetIterable iter X.env x = pure x}, PS X (.For tg iter y [] pos) (tst p (.fdk t m i b)) := fun {pi hs} =>
      s_fdk S (po.po hq) (S.calm hq) pi (fun z' => okT t (S.iz hq z') (f.iz z') h1) (fun z' => okSs b (S.iz hq z') (f.iz z') (po.iz z') h2) hs
    split at h3 <;> try cases h3
    · rename_i x xp
      obtain ⟨g1, g2, g3, g4⟩ := var_of f h3
      exact go (pi := pi_keys (pe_var g1 g2 g3 g4)) (hs := fun _ => rfl)
    · rename_i x xp n ap cp
      simp only [Bool.and_eq_true, decide_eq_true_eq] at h3
      obtain ⟨⟨⟨rfl, h4⟩, h5⟩, h6⟩ := h3
      obtain ⟨g1, g2, g3, g4⟩ := var_of f h4
      cases tg <;> try cases h6
      exact go (pi := pi_items (pe_var g1 g2 g3 g4) rfl h5) (hs := fun _ => rfl)
    · rename_i x xp n ap cp
      simp only [Bool.and_eq_true, decide_eq_true_eq] at h3
      obtain ⟨⟨rfl, h4⟩, h5⟩ := h3
      obtain ⟨g1, g2, g3, g4⟩ := var_of f h4
      exact go (pi := pi_values (pe_var g1 g2 g3 g4) rfl h5) (hs := fun _ => rfl)
  | .fds t i j b, X, p, k, S, f, po, sx, h => by
    unfold ckS at h; split at h <;> try cases h
    rename_i tg x xp y yp sp u pos
    obtain ⟨hq, h⟩ := f.hq h
    simp only [Bool.and_eq_true] at h
    obtain ⟨⟨⟨h1, h2⟩, h3⟩, h4⟩ := h
    obtain ⟨g1, g2, g3, g4⟩ := var_of f h3
    obtain ⟨k1, k2, k3, k4⟩ := var_of f h4
    exact s_fds S (po.po hq) (S.calm hq) (pi_keys (pe_ix ix_list (pe_var g1 g2 g3 g4) (pe_var k1 k2 k3 k4) (fun _ _ => rfl))) (fun z' => okT t (S.iz hq z') (f.iz z') h1) (fun z' => okSs b (S.iz hq z') (f.iz z') (po.iz z') h2) (fun _ => rfl)
  | .trx i cn ys ns b c, X, p, k, S, f, po, sx, h => by
    unfold ckS at h; split at h <;> try cases h
    rename_i body x np n b0 suite pos' pos
    obtain ⟨hq, h⟩ := f.hq h
    simp only [Bool.and_eq_true, decide_eq_true_eq, List.all_eq_true, Bool.not_eq_true'] at h
    obtain ⟨⟨⟨⟨⟨⟨⟨rfl, h1⟩, h2⟩, h3⟩, h4⟩, h5⟩, h6⟩, h7⟩ := h
    obtain ⟨g1, g2⟩ := gl_of f h1
    have hy : ∀ y ∈ ys, (y, x, true) ∈ p.ct.xm := fun y hy => by rw [f.ct]; exact h3 y hy
    have hn : ∀ y ∈ ns, (y, x, false) ∈ p.ct.xm := fun y hy => by rw [f.ct]; exact h4 y hy
    have hcv : ∃ cv, CvOk X.mg x cv := by
      cases ys with
      | cons y _ =>
        obtain ⟨_, cv, _, h, _⟩ := S.exk.xm _ _ _ (hy y List.mem_cons_self)
        exact ⟨cv, h⟩
      | nil =>
        cases ns with
        | cons y _ =>
          obtain ⟨_, cv, _, h, _⟩ := S.exk.xm _ _ _ (hn y List.mem_cons_self)
          exact ⟨cv, h⟩
        | nil => simp at h2
    obtain ⟨cv, hcv⟩ := hcv
    have hB : ∀ (W : WX) (pn : List (Addr × Obj)) (xe : Value → Shared → Prop), Takes (X.tr pn xe) W → PassesOwn (model X.prog X.w) X.A X.env xe → PSs (X.tr pn xe) body (tstL { p with W := W } b) :=
      fun W pn xe tk ps => okSs b (S.tr hq tk) f.tr ⟨fun _ => ps, po.hs, po.hf⟩ h6
    have hC : ∀ (q : Xat) (oe : Obj) (pn : List (Addr × Obj)), Sok (p.sui (zx p.z q)) (X.suite q.a ((q.a, oe) :: pn)) → PSs (X.suite q.a ((q.a, oe) :: pn)) (b0 :: suite) (tstL (p.sui (zx p.z q)) c) :=
      fun q oe pn S' => okSs c S' f.suite .suite h7
    split at h5 <;> try cases h5
    · rename_i i v
      simp only [Bool.and_eq_true, decide_eq_true_eq] at h5
      refine s_trxN S (po.hs hq) (po.hf hq) (by rw [f.N]; exact h5.1) ?_ g1 g2 hcv hy hn hB hC
      show X.env.scope.names.lookup v = _
      rw [f.sc]
      have h := h5.2
      unfold locOnly at h
      split at h
      · assumption
      · cases h
    · exact s_trxO S (po.hs hq) (po.hf hq) g1 g2 hcv hy hn hB hC
  | .retN, X, p, k, S, f, po, sx, h => by
    unfold ckS at h; split at h <;> try cases h
    exact s_retN
  | .brk, X, p, k, S, f, po, sx, h => by
    unfold ckS at h; split at h <;> try cases h
    exact s_brk
  | .cnt, X, p, k, S, f, po, sx, h => by
    unfold ckS at h; split at h <;> try cases h
    exact s_cnt
  | .pas, X, p, k, S, f, po, sx, h => by
    unfold ckS at h; split at h <;> try cases h
    · exact s_pas
    · exact s_doc
  | .nev, X, p, k, S, f, po, sx, h => s_nev
theorem okSs : ∀ (c : Pv.Ss) {X : Cx} {p : Px} {k : Ck} (S : Sok p X) (f : Fit X p k) (po : Stk p X) {l : List Stmt}, ckSs k c l = true → PSs X l (tstL p c)
  | .nil, X, p, k, S, f, po, l, h => by
    unfold ckSs at h
    cases l with
    | nil => exact ss_nil
    | cons _ _ => cases h
  | .cons c r, X, p, k, S, f, po, l, h => by
    unfold ckSs at h
    cases l with
    | nil => cases h
    | cons a l =>
      simp only [Bool.and_eq_true] at h
      exact ss_cons (okS c S f po h.1) (okSs r S f po h.2)
end
end
end Pv
namespace Pv
open PySem PySem.Spec PyProof.Rows L2
def locB (sc : Scope) (x : Str) : Bool := match sc.names.lookup x with
  | some .local => true
  | some .cell => true
  | _ => false
theorem loc_of {sc : Scope} {x : Str} (h : locB sc x = true) : Loc sc x := by
  unfold locB at h
  split at h
  · exact .inl (by assumption)
  · exact .inr (by assumption)
  · cases h
def ckOf (N dn : List Str) (ct : Ct) (sc : Scope) : Ck := ⟨N, sc, N.filter (locB sc), dn, ct, false⟩
section
variable {K : PySem.W.Frag} {mg : Str → Option Value} {F F' : Zn} {io io' : List Addr} {H H' : Hp} {e : En} {st st' : Sto} {σ : L2.St}
theorem SR.entry {vs : List V} {ds : List D} {N : List Str} {n : Nat} (c : Cel K F io st H) (r : RepL K H F io vs ds) (hn : n = N.length) (hl : ds.length ≤ n) : SR K ⟨H, io, F, none⟩ F io (ds.map Sl.fr ++ List.replicate (n - ds.length) Sl.un) st (L2.start N vs) H := by
  have hlen := r.length
  have noow : ∀ (i : Nat) (d : D), (ds.map Sl.fr ++ List.replicate (n - ds.length) Sl.un)[i]? ≠ some (.ow d) := fun i d q => by
    by_cases hi : i < ds.length
    · rw [List.getElem?_append_left (by simpa using hi), List.getElem?_map] at q
      cases e : ds[i]? with
      | none => rw [e] at q; cases q
      | some x => rw [e] at q; cases q
    · rw [List.getElem?_append_right (by simpa using hi), List.getElem?_replicate] at q
      split at q <;> cases q
  refine ⟨c, ?_, fun i d q => ?_, fun i d q => absurd q (noow i d), fun i j d d' a q => absurd q (noow i d), fun a u q _ => q, ⟨[], by simp, fun a h => by simp at h⟩, fun a h => .inl h, fun i x q => by
    exfalso
    by_cases hi : i < ds.length
    · rw [List.getElem?_append_left (by simpa using hi), List.getElem?_map] at q
      cases e : ds[i]? with
      | none => rw [e] at q; cases q
      | some y => rw [e] at q; cases q
    · rw [List.getElem?_append_right (by simpa using hi), List.getElem?_replicate] at q
      split at q <;> cases q⟩
  · unfold L2.start
    simp [hlen, hn]
  · by_cases hi : i < ds.length
    · rw [List.getElem?_append_left (by simpa using hi), List.getElem?_map] at q
      cases e : ds[i]? with
      | none => rw [e] at q; cases q
      | some x =>
        rw [e] at q; cases q
        obtain ⟨v, g1, g2⟩ := r.get e
        refine ⟨v, ?_, g2⟩
        unfold L2.start
        rw [List.getElem?_append_left (by simpa [hlen] using hi), List.getElem?_map, g1]
        rfl
    · rw [List.getElem?_append_right (by simpa using hi), List.getElem?_replicate] at q
      split at q <;> cases q
theorem SR.extC {z : Zo} (s : SR K z F io e st σ H) (ff : ∀ a, z.F0 a → F a) : ExtC z.F0 z.i0 z.H0 F io H := ⟨ff, s.frm, s.pre, s.fnw⟩
theorem PoE.poC {r : DB} {v : V} (h : PoE K ⟨H, io, F, none⟩ F io H e st' σ r v H') : PoC K F io H st' r v H' := by
  obtain ⟨F1, io1, x, s, q⟩ := h
  refine ⟨F1, io1, s.extC x.ff, s.cel, ?_⟩
  unfold VR at q
  split at q
  · rename_i hw
    rw [if_pos hw]
    obtain ⟨a, rfl, ho, n1, n2, n3, n4⟩ := q
    exact ⟨a, rfl, ho, n1, n2, n3⟩
  · rename_i hw
    rw [if_neg hw]
    exact q
end
/-- a def's body keeps the promise of its core -/
theorem def_ok {P : Program} {w : World} {K : PySem.W.Frag} {mg : Str → Option Value} {base : Heap} {x qual : Str} {sx : Stmt} {f : Addr} {fd : FuncData} {N ps : List Str} {k : Nat} {d : Df} {B : Tab} {G : Glb} {dn : Str → Bool} {dnl : List Str} {ct : Ct}
    (Fn : FunD K x qual (defArgs sx) (defBody sx) (defScope sx) [] [] f fd) (S : FnScope N ps (defScope sx)) (hnp : d.np = ps.length) (hns : d.ns = N.length)
    (ck : ckSs (ckOf N dnl ct (defScope sx)) d.body (defBody sx) = true)
    (hdn : ∀ f, dnl.contains f = true → dn f = true)
    (htab : ∀ f, dn f = true → ∃ a fd ps k', mg f = some (.ref a) ∧ FnOk P w K mg base (L2.CX P w) k' a fd ps (spT K mg (B f)) ∧ k' ≤ k ∧ PySem.W.keepIn K (.ref a) = true ∧ Binds K fd ps [])
    (hatt : ∀ c f, (c, f) ∈ ct.an → ∃ C, ClsAt K c C ∧ Cls K C ∧ NoAttr K C f)
    (hnew : ∀ c key, (c, key) ∈ ct.cn → ∃ C f fd ps k', mg c = some (.ref C) ∧ ClsAt K c C ∧ Mk K C f ∧ FnOk P w K mg base (L2.CX P w) k' f fd ps (spT K mg (B key)) ∧ k' + 1 ≤ k ∧ Binds K fd ps [])
    (hmet : ∀ c m key, (c, m, key) ∈ ct.mn → ∃ C f fd ps k', ClsAt K c C ∧ Cls K C ∧ Meth K C m f ∧ FnOk P w K mg base (L2.CX P w) k' f fd ps (spT K mg (B key)) ∧ k' ≤ k ∧ Binds K fd ps [])
    (hprp : ∀ c m key, (c, m, key) ∈ ct.pn → ∃ C q f fd ps k', ClsAt K c C ∧ Cls K C ∧ PropOf K C m q f ∧ FnOk P w K mg base (L2.CX P w) k' f fd ps (spT K mg (B key)) ∧ k' + 1 ≤ k ∧ Binds K fd ps [])
    (hopn : ∀ c key, (c, key) ∈ ct.on → ∃ C f fd ps k', ClsAt K c C ∧ PySem.W.selfFirst K C = true ∧ PySem.W.findIn K (.ref C) "__add__" = some (some (.ref f)) ∧ PySem.W.isFn K (.ref f) = true ∧ FnOk P w K mg base (L2.CX P w) k' f fd ps (spT K mg (B key)) ∧ k' ≤ k ∧ Binds K fd ps [])
    (hexn : ∀ c fs, (c, fs) ∈ ct.xn → ∃ C fI fd ps k', mg c = some (.ref C) ∧ OexC K C ∧ PySem.W.findIn K (.ref C) "__init__" = some (some (.ref fI)) ∧ PySem.W.typeIn K (.ref fI) = some (.type "function") ∧ FnOk P w K mg base (L2.CX P w) k' fI fd ps (spXs K fs) ∧ (∀ f ∈ fs, PySem.W.findIn K (.ref C) f = some none) ∧ k' + 1 ≤ k ∧ Binds K fd ps [])
    (hexk : XcOk K mg ct)
    (hglb : ∀ x d, G x = some d → GOf w K mg x d)
    (hblt : ∀ x ∈ bltAll, mg x = none) :
    FnOk P w K mg base (L2.CX P w) (k + 1) f fd ps (spT K mg (runD B G d)) := by
  refine FunD.ok Fn S (fun vs H Q E h => ?_) fun cdv A outer s H vs Q E hr hsp => ?_
  · obtain ⟨F, io, ds, st, _, r, m⟩ := h
    unfold runD at m
    split at m <;> rename_i q
    · split at q
      · rename_i hl; rw [r.length, hl.1, hnp]
      · cases q
    · split at q
      · rename_i hl; rw [r.length, hl.1, hnp]
      · cases q
    · exact m.elim
  · obtain ⟨F, io, ds, st, c, r, m⟩ := hsp
    have po : PassesOwn (model P w) (A.deeper (envOfC qual (defScope sx) s.heap.objs.size f cdv)) (envOfC qual (defScope sx) s.heap.objs.size f cdv) (cxOf (L2.CX P w) P w K mg base N qual (defScope sx) f cdv A outer s H E).xe := passes_of (X := cxOf (L2.CX P w) P w K mg base N qual (defScope sx) f cdv A outer s H E) rfl
    have So : Sok ⟨K, mg, B, G, ⟨H, io, F, none⟩, fun cls d _ H' => E cls d H', dn, ct, false⟩ (cxOf (L2.CX P w) P w K mg base N qual (defScope sx) f cdv A outer s H E) :=
      { K := rfl, mg := rfl, calm := fun _ => rfl, nd := S.nd, hu := by have := hr.un; show (A.deeper (envOfC qual (defScope sx) s.heap.objs.size f cdv)).units + 65 < _; omega, tk := takes_of rfl rfl rfl rfl,
        tab := fun g hg => by
          obtain ⟨a, fd, ps, k', h1, h2, hk, h3, h4⟩ := htab g hg
          exact ⟨a, fd, ps, k', h1, h2, hr.mono hk, h3, h4⟩
        glb := hglb, blt := hblt, att := hatt,
        new := fun c key hc => by
          obtain ⟨C, f, fd, ps, k', h1, h2, h3, h4, hk, h5⟩ := hnew c key hc
          exact ⟨C, f, fd, ps, k', h1, h2, h3, h4, hr.mono hk, h5⟩
        met := fun c m key hc => by
          obtain ⟨C, f, fd, ps, k', h1, h2, h3, h4, hk, h5⟩ := hmet c m key hc
          exact ⟨C, f, fd, ps, k', h1, h2, h3, h4, hr.mono hk, h5⟩
        prp := fun c m key hc => by
          obtain ⟨C, q, f, fd, ps, k', h1, h2, h3, h4, hk, h5⟩ := hprp c m key hc
          exact ⟨C, q, f, fd, ps, k', h1, h2, h3, h4, hr.mono hk, h5⟩
        opn := fun c key hc => by
          obtain ⟨C, f, fd, ps, k', h1, h2, h3, h3', h4, hk, h5⟩ := hopn c key hc
          exact ⟨C, f, fd, ps, k', h1, h2, h3, h3', h4, hr.mono hk, h5⟩
        exn := fun c g hc => by
          obtain ⟨C, fI, fd, ps, k', h1, h2, h3, h4, h5, h6, hk, h7⟩ := hexn c g hc
          exact ⟨C, fI, fd, ps, k', h1, h2, h3, h4, h5, h6, hr.mono hk, h7⟩
        exk := hexk
        sui := fun h => by cases h }
    have Ft : Fit (cxOf (L2.CX P w) P w K mg base N qual (defScope sx) f cdv A outer s H E) ⟨K, mg, B, G, ⟨H, io, F, none⟩, fun cls d _ H' => E cls d H', dn, ct, false⟩ (ckOf N dnl ct (defScope sx)) :=
      ⟨rfl, rfl, fun x hx => ⟨loc_of (by
        have hx : x ∈ N.filter (locB (defScope sx)) := List.contains_iff_mem.mp hx
        exact (List.mem_filter.mp hx).2), .inl rfl⟩, hdn, rfl, rfl⟩
    refine ⟨tstL ⟨K, mg, B, G, ⟨H, io, F, none⟩, fun cls d _ H' => E cls d H', dn, ct, false⟩ d.body, okSs d.body So Ft ⟨fun _ => po, fun _ => rfl, fun _ => rfl⟩ ck, ?_⟩
    unfold runD at m
    split at m <;> rename_i q <;> split at q <;> try cases q
    · rename_i hl
      refine ⟨F, io, _, st, SR.entry (N := N) (n := d.ns) c r hns (hl.1 ▸ hl.2), ?_⟩
      rw [hl.1]
      split at q <;> try cases q
      · rename_i hx
        rw [hx]
        exact fun σ' H' ⟨F', io', y, s'⟩ => m .non H' (PoE.poC ⟨F', io', y, s', .non⟩)
      · rename_i hx
        rw [hx]
        exact fun v σ' H' po => m v H' po.poC
    · rename_i hl
      refine ⟨F, io, _, st, SR.entry (N := N) (n := d.ns) c r hns (hl.1 ▸ hl.2), ?_⟩
      rw [hl.1]
      split at q <;> try cases q
      rename_i hx
      rw [hx]
      exact fun σ' cls dd H' ⟨F', io', y, s', z⟩ => m cls dd H' ⟨F', io', s'.extC y.ff, s'.cel, z⟩
    · exact m.elim
    · exact m.elim
theorem init1_ok {P : Program} {w : World} {K : PySem.W.Frag} {mg : Str → Option Value} {base : Heap} {x qual : Str} {sx : Stmt} {g : Addr} {fd : FuncData} {n0 n1 f : Str} {k : Nat} {p1 p2 p3 p4 : Pos}
    (Fn : FunD K x qual (defArgs sx) (defBody sx) (defScope sx) [] [] g fd) (S : FnScope [n0, n1] [n0, n1] (defScope sx))
    (hb : defBody sx = [.Assign [.Attribute (.Name n0 p1) f p2] (.Name n1 p3) p4])
    (v0 : Vis (defScope sx) n0) (v1 : Vis (defScope sx) n1) (q0 : okN n0 = true) (q1 : okN n1 = true) :
    FnOk P w K mg base (L2.CX P w) (k + 1) g fd [n0, n1] (spXs K [f]) := by
  unfold okN at q0 q1
  simp only [Bool.and_eq_true, Bool.not_eq_true'] at q0 q1
  refine FunD.ok Fn S (fun vs H Q E h => ?_) fun cdv A outer s H vs Q E hr hsp => ?_
  · obtain ⟨a, C, ys, rfl, hl, _⟩ := h
    simp [hl]
  · obtain ⟨a, C, ys, rfl, hl, T, hno, ha, q⟩ := hsp
    rw [hb]
    match ys, hl with
    | [y], _ =>
      refine ⟨_, pss_one (ps_ost (pe_var (i := 0) rfl v0 q0.1 q0.2) (pe_var (i := 1) rfl v1 q1.1 q1.2)), ?_⟩
      refine ⟨y, rfl, .ref a, rfl, a, C, rfl, T, hno f List.mem_cons_self, .inl ⟨ha, fun dx h1 h2 => q dx h1 h2⟩⟩
/-- self.f as a target -/
def gOst (K : PySem.W.Frag) (f : Str) (to : TE) : TG := fun y σ H Q => to σ H fun x H2 => ∃ a C : Addr, x = .ref a ∧ OexC K C ∧ PySem.W.findIn K (.ref C) f = some none ∧
  ((H2 a = some (exo a C none) ∧ ∀ dx, H2 dx = none → dx ≠ a → Q σ (upd (upd H2 dx (exd dx [(f, y)])) a (exo a C (some dx)))) ∨
    ∃ (dx : Addr) (fs : List (Str × V)), H2 a = some (exo a C (some dx)) ∧ H2 dx = some (exd dx fs) ∧ fs.length ≤ 900 ∧ Q σ (upd H2 dx (exd dx ((f, y) :: fs))))
theorem pg_ost {X : Cx} {o : Expr} {f : Str} {p' : Pos} {to : TE} (ho : PE X o to) : PG X (.Attribute o f p') (gOst X.K f to) := by
  refine ⟨fun pins s σ H v u Q I r h => ?_⟩
  rw [PySem.assign_Attribute]
  refine wpAny_bind (wpAny_holding (thn (ho.run pins s σ H _ I h) fun ov s1 ⟨x, H1, I1, r1, a, C, ex, T, hno, q⟩ => ?_))
  subst ex
  obtain rfl : ov = Value.ref a := r1
  refine wpAny_bind (wpAny_standAt (wpAny_bind (wpAny_holding ?_)))
  rcases q with ⟨ea, q⟩ | ⟨dx, fs, ea, ed, hl, q⟩
  · exact ost_new T I1 ea hno r fun dx s' n ne J => wpAny_release ⟨σ, _, J, q dx n ne⟩
  · exact ost_old T I1 ea ed hl hno r fun s' J => wpAny_release ⟨σ, _, J, q⟩
/-- t, u = a, b where the targets are no plain names; the pair is not tracked -/
def tPrs (ta : TA) (g : TGs) : TS := fun D σ H => ta σ H fun vs H1 => vs.length = 2 ∧ g vs σ H1 D.nx
theorem ps_pst {X : Cx} {t1 t2 a b : Expr} {ta : TA} {g : TGs} {pt pt2 pos : Pos} {kt k2 : Nat} (hc : X.calm = true) (ha : PA X [a, b] ta) (hg : PGs X [t1, t2] g)
    (hw : swappedStores [.Tuple [t1, t2] kt pt] (.Tuple [a, b] k2 pt2) X.env = pure none)
    (hst : (assignEach [t1, t2] X.env).findIdx? (·.1) = none := by rfl)
    (hs : swapsWithSole [.Tuple [t1, t2] kt pt] (.Tuple [a, b] k2 pt2) pos.line X.env = pure false := by rfl)
    (h1 : (assignEach [.Tuple [t1, t2] kt pt] X.env).map (·.2) = [assign (.Tuple [t1, t2] kt pt) X.env] := by rfl)
    (hn : (assignEach [t1, t2] X.env).length = 2 := by rfl) :
    PS X (.Assign [.Tuple [t1, t2] kt pt] (.Tuple [a, b] k2 pt2) pos) (tPrs ta g) := by
  refine ⟨fun pins s σ H D I h => ?_⟩
  refine wpAny_Assign_stores (Tuple_ (thn (ha.run _ pins s σ H _ I h) fun us s1 ⟨vs, H1, I1, r1, hl, q1⟩ => ?_)) hs hw
  have hul : us.length = 2 := by rw [← hl]; exact (r1.length).symm
  refine wpAny_newObj_type ?_ (by show us.length ≤ sizeLine; rw [hul]; decide)
  have I2 : Inv X pins σ H1 { s1 with heap := s1.heap.push { cls := .type "tuple", data := .seq us.toArray } } := I1.kept (t' := s1.toks) fun b o e => Heap.get?_push_of_some _ e
  rw [h1]
  refine assign_Tuple_tuple (items := us.toArray) (I.ok.hd hc) (IsTup.new s1.heap _) (by rw [hn, List.size_toArray, hul]) hst fun h' hx' => ?_
  have I3 := I2.kept (h' := h') (t' := s1.toks) fun b o e => hx' b o (Nat.ne_of_lt (Heap.lt_size e)) e
  exact hg.run pins _ σ H1 vs _ D.nx I3 (by simpa using r1) q1
theorem sw_att {env : Env} {o1 o2 : Expr} {f f2 n1 n2 : Str} {p2 p4 p5 p6 p7 p8 : Pos} {kt k2 : Nat} :
    swappedStores [.Tuple [.Attribute o1 f p2, .Attribute o2 f2 p4] kt p5] (.Tuple [.Name n1 p6, .Name n2 p7] k2 p8) env = pure none := by
  cases h : (env.blockKind != .function) with
  | true =>
    unfold swappedStores
    simp [h]
  | false =>
    unfold swappedStores
    simp [h]
theorem init2_ok {P : Program} {w : World} {K : PySem.W.Frag} {mg : Str → Option Value} {base : Heap} {x qual : Str} {sx : Stmt} {g : Addr} {fd : FuncData} {n0 n1 n2 f f2 : Str} {k kt k2 : Nat} {p1 p2 p3 p4 p5 p6 p7 p8 p9 : Pos}
    (Fn : FunD K x qual (defArgs sx) (defBody sx) (defScope sx) [] [] g fd) (S : FnScope [n0, n1, n2] [n0, n1, n2] (defScope sx))
    (hb : defBody sx = [.Assign [.Tuple [.Attribute (.Name n0 p1) f p2, .Attribute (.Name n0 p3) f2 p4] kt p5] (.Tuple [.Name n1 p6, .Name n2 p7] k2 p8) p9])
    (v0 : Vis (defScope sx) n0) (v1 : Vis (defScope sx) n1) (v2 : Vis (defScope sx) n2) (q0 : okN n0 = true) (q1 : okN n1 = true) (q2 : okN n2 = true) :
    FnOk P w K mg base (L2.CX P w) (k + 1) g fd [n0, n1, n2] (spXs K [f, f2]) := by
  unfold okN at q0 q1 q2
  simp only [Bool.and_eq_true, Bool.not_eq_true'] at q0 q1 q2
  refine FunD.ok Fn S (fun vs H Q E h => ?_) fun cdv A outer s H vs Q E hr hsp => ?_
  · obtain ⟨a, C, ys, rfl, hl, _⟩ := h
    simp [hl]
  · obtain ⟨a, C, ys, rfl, hl, T, hno, ha, q⟩ := hsp
    rw [hb]
    match ys, hl with
    | [y1, y2], _ =>
      refine ⟨_, pss_one (ps_pst rfl (pa_cons (pe_var (i := 1) rfl v1 q1.1 q1.2) (pa_cons (pe_var (i := 2) rfl v2 q2.1 q2.2) pa_nil)) (pgs_cons (pg_ost (pe_var (i := 0) rfl v0 q0.1 q0.2)) (pgs_cons (pg_ost (pe_var (i := 0) rfl v0 q0.1 q0.2)) pgs_nil)) sw_att), ?_⟩
      refine ⟨y1, rfl, y2, rfl, rfl, y1, _, rfl, .ref a, rfl, a, C, rfl, T, hno f (by simp), .inl ⟨ha, fun dx h1 h2 => ?_⟩⟩
      have ea : upd (upd H dx (exd dx [(f, y1)])) a (exo a C (some dx)) a = some (exo a C (some dx)) := upd_same
      have ed : upd (upd H dx (exd dx [(f, y1)])) a (exo a C (some dx)) dx = some (exd dx [(f, y1)]) := by rw [upd_ne h2, upd_same]
      refine ⟨y2, _, rfl, .ref a, rfl, a, C, rfl, T, hno f2 (by simp), .inr ⟨dx, [(f, y1)], ea, ed, by simp, ?_⟩⟩
      refine ⟨rfl, ?_⟩
      have e : upd (upd (upd H dx (exd dx [(f, y1)])) a (exo a C (some dx))) dx (exd dx [(f2, y2), (f, y1)]) = upd (upd H dx (exd dx ([f, f2].zip [y1, y2]).reverse)) a (exo a C (some dx)) := by
        funext b
        by_cases r1 : b = dx
        · rw [r1, upd_same, upd_ne h2, upd_same]; rfl
        · rw [upd_ne r1]
          by_cases r2 : b = a
          · rw [r2, upd_same, upd_same]
          · rw [upd_ne r2, upd_ne r2, upd_ne r1, upd_ne r1]
      rw [e]
      exact q dx h1 h2
/-- an error class that but stores its arguments, as it stands in the text -/
structure XnOk (K : PySem.W.Frag) (mg : Str → Option Value) (c : Str) (fs : List Str) : Prop where
  ex : ∃ (C fI : Addr) (fd : FuncData) (ps : List Str), mg c = some (.ref C) ∧ OexC K C ∧ PySem.W.findIn K (.ref C) "__init__" = some (some (.ref fI)) ∧ PySem.W.typeIn K (.ref fI) = some (.type "function") ∧
    (∀ P w base, FnOk P w K mg base (L2.CX P w) 1 fI fd ps (spXs K fs)) ∧ (∀ f ∈ fs, PySem.W.findIn K (.ref C) f = some none) ∧ Binds K fd ps []
/-- where a key's def stands -/
structure Wh (K : PySem.W.Frag) (mg : Str → Option Value) (dnl : List Str) (ct : Ct) (f : Str) (a : Addr) : Prop where
  dn : f ∈ dnl → mg f = some (.ref a)
  cn : ∀ c, (c, f) ∈ ct.cn → ∃ C, mg c = some (.ref C) ∧ ClsAt K c C ∧ Mk K C a
  mn : ∀ c m, (c, m, f) ∈ ct.mn → ∃ C, ClsAt K c C ∧ Cls K C ∧ Meth K C m a
  pn : ∀ c m, (c, m, f) ∈ ct.pn → ∃ C q, ClsAt K c C ∧ Cls K C ∧ PropOf K C m q a
  on : ∀ c, (c, f) ∈ ct.on → ∃ C, ClsAt K c C ∧ PySem.W.selfFirst K C = true ∧ PySem.W.findIn K (.ref C) "__add__" = some (some (.ref a)) ∧ PySem.W.isFn K (.ref a) = true
/-- what is shown of every def -/
structure DefK (K : PySem.W.Frag) (mg : Str → Option Value) (dnl : List Str) (ct : Ct) (f : Str) (d : Df) : Prop where
  ex : ∃ (a : Addr) (x qual : Str) (sx : Stmt) (fd : FuncData) (N ps : List Str), Wh K mg dnl ct f a ∧ FunD K x qual (defArgs sx) (defBody sx) (defScope sx) [] [] a fd ∧ FnScope N ps (defScope sx) ∧ d.np = ps.length ∧ d.ns = N.length ∧
    ckSs (ckOf N dnl ct (defScope sx)) d.body (defBody sx) = true ∧ Binds K fd ps []
/-- every key has its def -/
structure Whole (tb : List (Str × Df)) (dnl : List Str) (ct : Ct) : Prop where
  dn : ∀ f ∈ dnl, (tb.lookup f).isSome = true
  cn : ∀ c f, (c, f) ∈ ct.cn → (tb.lookup f).isSome = true
  mn : ∀ c m f, (c, m, f) ∈ ct.mn → (tb.lookup f).isSome = true
  pn : ∀ c m f, (c, m, f) ∈ ct.pn → (tb.lookup f).isSome = true
  on : ∀ c f, (c, f) ∈ ct.on → (tb.lookup f).isSome = true
def wholeB (tb : List (Str × Df)) (dnl : List Str) (ct : Ct) : Bool := dnl.all (fun f => (tb.lookup f).isSome) && ct.cn.all (fun p => (tb.lookup p.2).isSome) && ct.mn.all (fun p => (tb.lookup p.2.2).isSome) && ct.pn.all (fun p => (tb.lookup p.2.2).isSome) && ct.on.all (fun p => (tb.lookup p.2).isSome)
theorem wholeB_ok {tb : List (Str × Df)} {dnl : List Str} {ct : Ct} (h : wholeB tb dnl ct = true) : Whole tb dnl ct := by
  unfold wholeB at h
  simp only [Bool.and_eq_true, List.all_eq_true] at h
  exact ⟨h.1.1.1.1, fun c f hc => h.1.1.1.2 _ hc, fun c m f hc => h.1.1.2 _ hc, fun c m f hc => h.1.2 _ hc, fun c f hc => h.2 _ hc⟩
/-- a key's def at a level -/
def AtLvl (P : Program) (w : World) (K : PySem.W.Frag) (mg : Str → Option Value) (base : Heap) (dnl : List Str) (ct : Ct) (B : Tab) (k : Nat) (f : Str) : Prop :=
  ∃ a fd ps, Wh K mg dnl ct f a ∧ FnOk P w K mg base (L2.CX P w) k a fd ps (spT K mg (B f)) ∧ PySem.W.keepIn K (.ref a) = true ∧ Binds K fd ps []
theorem step_ok {P : Program} {w : World} {K : PySem.W.Frag} {mg : Str → Option Value} {base : Heap} {tb : List (Str × Df)} {dnl : List Str} {ct : Ct} {G : Glb} {B : Tab} {k : Nat} (hw : Whole tb dnl ct)
    (hatt : ∀ c f, (c, f) ∈ ct.an → ∃ C, ClsAt K c C ∧ Cls K C ∧ NoAttr K C f)
    (hex : ∀ c f, (c, f) ∈ ct.xn → XnOk K mg c f) (hxk : XcOk K mg ct)
    (hglb : ∀ x d, G x = some d → GOf w K mg x d)
    (hblt : ∀ x ∈ bltAll, mg x = none) (ih : ∀ f, (tb.lookup f).isSome = true → AtLvl P w K mg base dnl ct B (2 * k + 2) f)
    {x qual : Str} {sx : Stmt} {f : Addr} {fd : FuncData} {N ps : List Str} {d : Df}
    (Fn : FunD K x qual (defArgs sx) (defBody sx) (defScope sx) [] [] f fd) (S : FnScope N ps (defScope sx)) (hnp : d.np = ps.length) (hns : d.ns = N.length)
    (ck : ckSs (ckOf N dnl ct (defScope sx)) d.body (defBody sx) = true) : FnOk P w K mg base (L2.CX P w) (2 * k + 4) f fd ps (spT K mg (runD B G d)) := by
  refine def_ok (k := 2 * k + 3) (dn := fun g => dnl.contains g) Fn S hnp hns ck (fun g hg => hg) (fun g hg => ?_) hatt (fun c key hc => ?_) (fun c m key hc => ?_) (fun c m key hc => ?_) (fun c key hc => ?_) (fun c g hc => ?_) hxk hglb hblt
  · have hg : g ∈ dnl := List.contains_iff_mem.mp hg
    obtain ⟨a, fd, ps, h1, h2, h3, h4⟩ := ih g (hw.dn g hg)
    exact ⟨a, fd, ps, _, h1.dn hg, h2, Nat.le_succ _, h3, h4⟩
  · obtain ⟨a, fd, ps, h1, h2, h3, h4⟩ := ih key (hw.cn c key hc)
    obtain ⟨C, g1, g2, g3⟩ := h1.cn c hc
    exact ⟨C, a, fd, ps, _, g1, g2, g3, h2, Nat.le_refl _, h4⟩
  · obtain ⟨a, fd, ps, h1, h2, h3, h4⟩ := ih key (hw.mn c m key hc)
    obtain ⟨C, g1, g2, g3⟩ := h1.mn c m hc
    exact ⟨C, a, fd, ps, _, g1, g2, g3, h2, Nat.le_succ _, h4⟩
  · obtain ⟨a, fd, ps, h1, h2, h3, h4⟩ := ih key (hw.pn c m key hc)
    obtain ⟨C, q, g1, g2, g3⟩ := h1.pn c m hc
    exact ⟨C, q, a, fd, ps, _, g1, g2, g3, h2, Nat.le_refl _, h4⟩
  · obtain ⟨a, fd, ps, h1, h2, h3, h4⟩ := ih key (hw.on c key hc)
    obtain ⟨C, g1, g2, g3, g4⟩ := h1.on c hc
    exact ⟨C, a, fd, ps, _, g1, g2, g3, g4, h2, Nat.le_succ _, h4⟩
  · obtain ⟨C, fI, fd, ps, h1, h2, h3, h4, h5, h6, h7⟩ := (hex c g hc).ex
    exact ⟨C, fI, fd, ps, 1, h1, h2, h3, h4, h5 _ _ _, h6, by omega, h7⟩
theorem tab_ok {P : Program} {w : World} {K : PySem.W.Frag} {mg : Str → Option Value} {base : Heap} {tb : List (Str × Df)} {dnl : List Str} {ct : Ct} {G : Glb} (hw : Whole tb dnl ct)
    (hd : ∀ p ∈ tb, DefK K mg dnl ct p.1 p.2)
    (hatt : ∀ c f, (c, f) ∈ ct.an → ∃ C, ClsAt K c C ∧ Cls K C ∧ NoAttr K C f)
    (hex : ∀ c f, (c, f) ∈ ct.xn → XnOk K mg c f) (hxk : XcOk K mg ct)
    (hglb : ∀ x d, G x = some d → GOf w K mg x d)
    (hblt : ∀ x ∈ bltAll, mg x = none) :
    ∀ (k : Nat) (f : Str), (tb.lookup f).isSome = true → AtLvl P w K mg base dnl ct (tab (fun f => tb.lookup f) G k) (2 * k + 2) f
  | 0, f, h => by
    obtain ⟨d, hd'⟩ := Option.isSome_iff_exists.mp h
    obtain ⟨a, x, qual, sx, fd, N, ps, h1, h2, h3, h4, h5, h6, h7⟩ := (hd _ (PySem.mem_of_lookup hd')).ex
    have no : ∀ vs H Q E, ¬ spT K mg (tab (fun f => tb.lookup f) G 0 f) vs H Q E := fun vs H Q E ⟨_, _, _, _, _, _, m⟩ => m
    exact ⟨a, fd, ps, h1, ⟨fun vs H Q E q => (no _ _ _ _ q).elim, fun A outer s H args us vs Q E _ _ _ _ q => (no _ _ _ _ q).elim⟩, h2.kp, h7⟩
  | k + 1, f, h => by
    obtain ⟨d, hd'⟩ := Option.isSome_iff_exists.mp h
    obtain ⟨a, x, qual, sx, fd, N, ps, h1, h2, h3, h4, h5, h6, h7⟩ := (hd _ (PySem.mem_of_lookup hd')).ex
    refine ⟨a, fd, ps, h1, ?_, h2.kp, h7⟩
    have e : tab (fun f => tb.lookup f) G (k + 1) f = runD (tab (fun f => tb.lookup f) G k) G d := by
      funext ds s
      show (match tb.lookup f with | some d => runD (tab (fun f => tb.lookup f) G k) G d ds s | none => none) = _
      rw [hd']
    rw [e]
    exact step_ok hw hatt hex hxk hglb hblt (fun g hg => tab_ok hw hd hatt hex hxk hglb hblt k g hg) h2 h3 h4 h5 h6
end Pv
namespace Pv
open PySem PySem.Spec PyProof.Rows L2
theorem rep_ints {K : PySem.W.Frag} {H : Hp} {F : Zn} {io : List Addr} : ∀ ns : List Int, RepL K H F io (ns.map V.int) (ns.map D.int)
  | [] => .nil
  | n :: r => .cons (.int n) (rep_ints r)
/-- the law's promise -/
def spLaw (K : PySem.W.Frag) (n : Nat) : Sp := fun vs H Q _ => ∃ (a : Addr) (ns : List Int), vs = [.ref a] ∧ SqL K H a (ns.map V.int) ∧ ns.length ≤ n ∧ ∀ H', Q (.bl true) H'
def Plain (t : List D → Sto → Option (Rv × Sto)) (n : Nat) : Prop := ∀ ns : List Int, ns.length ≤ n → ∃ st', t [.lst (ns.map D.int)] [] = some (.rt (.bool true) false, st')
theorem law_sp {K : PySem.W.Frag} {mg : Str → Option Value} {n : Nat} {t : List D → Sto → Option (Rv × Sto)} (hp : Plain t n) : ∀ vs H Q E, spLaw K n vs H Q E → spT K mg t vs H Q E := by
  rintro vs H Q E ⟨a, ns, rfl, hS, hl, k⟩
  obtain ⟨st', e⟩ := hp ns hl
  refine ⟨fun b => ∃ u, H b = some u, [], _, [], ⟨fun b hb => hb, rfl, List.nodup_nil, fun b hb => by simp at hb, fun m b d h1 => by simp at h1⟩, .cons (.lst ?_ (rep_ints ns)) .nil, ?_⟩
  · rcases hS with h | h
    · refine .inl ⟨?_, h⟩
      rcases h with h | ⟨o, h⟩
      · exact ⟨_, h⟩
      · exact ⟨_, h⟩
    · exact .inr h
  · rw [e]
    rintro v H' ⟨F', io', _, _, q⟩
    have q : Rep K H' F' io' v (.bool true) := q
    cases q
    exact k H'
theorem cx_none {P : Program} {w : World} {H : Hp} {s : Shared} {e : Value} {s' : Shared} (h : L2.CX P w [] H s (fun _ _ _ => False) e s') : False := by
  obtain ⟨_, _, _, _, _, _, _, _, _, _, _, _, z⟩ := h
  exact z.elim
theorem dk {dnl : List Str} {ct : Ct} {K : PySem.W.Frag} {h : Heap} {mg : Str → Option Value} (X : K.In h) (G : h.Ns mainGlobals mg) {x qual : Str} {sx : Stmt} {N ps : List Str} {d : Df}
    (a : (He.Fa.glo x).ok K = true) (nc : (ct.cn.all (fun p => !decide (p.2 = x)) && ct.mn.all (fun p => !decide (p.2.2 = x)) && ct.pn.all (fun p => !decide (p.2.2 = x)) && ct.on.all (fun p => !decide (p.2 = x))) = true) (F : ∃ fd, FunD K x qual (defArgs sx) (defBody sx) (defScope sx) [] [] (He.ga K x) fd) (S : FnScope N ps (defScope sx)) (hnp : d.np = ps.length) (hns : d.ns = N.length) (ck : ckSs (ckOf N dnl ct (defScope sx)) d.body (defBody sx) = true)
    (hb : ∀ (kV doc pm : Value) (an : Option Addr) (cdv ct : Value) (us : List Value), us.length = ps.length → bindArgs (PySem.W.fnOf x qual (defArgs sx) (defBody sx) (defScope sx) .none kV doc pm an cdv ct) ⟨us, []⟩ = pure (ps.zip us)) : DefK K mg dnl ct x d :=
  let ⟨fd, F⟩ := F
  ⟨He.ga K x, x, qual, sx, fd, N, ps, ⟨fun _ => He.glo_ok X G a, fun c hc => by
      simp only [Bool.and_eq_true, List.all_eq_true] at nc
      have := nc.1.1.1 _ hc
      simp at this, fun c m hc => by
      simp only [Bool.and_eq_true, List.all_eq_true] at nc
      have := nc.1.1.2 _ hc
      simp at this, fun c m hc => by
      simp only [Bool.and_eq_true, List.all_eq_true] at nc
      have := nc.1.2 _ hc
      simp at this, fun c hc => by
      simp only [Bool.and_eq_true, List.all_eq_true] at nc
      have := nc.2 _ hc
      simp at this⟩, F, S, hnp, hns, ck, F.bindsN hb⟩
/-- a method of the class c (__init__ too) -/
theorem dkm {dnl : List Str} {ct : Ct} {K : PySem.W.Frag} {h : Heap} {mg : Str → Option Value} (X : K.In h) (G : h.Ns mainGlobals mg) {c m key qual : Str} {sx : Stmt} {N ps : List Str} {d : Df}
    (a : (He.Fa.glo c).ok K = true) (ac : (He.Fa.cls c).ok K = true) (am : (He.Fa.meth c m).ok K = true) (mk : m = "__init__" → (He.Fa.mkr c).ok K = true)
    (nc : (!dnl.contains key && ct.cn.all (fun p => !decide (p.2 = key) || (decide (p.1 = c) && decide (m = "__init__"))) && ct.mn.all (fun p => !decide (p.2.2 = key) || (decide (p.1 = c) && decide (p.2.1 = m))) && ct.pn.all (fun p => !decide (p.2.2 = key)) && ct.on.all (fun p => !decide (p.2 = key) || (decide (p.1 = c) && decide (m = "__add__")))) = true)
    (ho : onB K ct = true)
    (F : ∃ fd, FunD K m qual (defArgs sx) (defBody sx) (defScope sx) [] [] (He.ma K (He.ga K c) m) fd) (S : FnScope N ps (defScope sx)) (hnp : d.np = ps.length) (hns : d.ns = N.length) (ck : ckSs (ckOf N dnl ct (defScope sx)) d.body (defBody sx) = true)
    (hb : ∀ (kV doc pm : Value) (an : Option Addr) (cdv ct : Value) (us : List Value), us.length = ps.length → bindArgs (PySem.W.fnOf m qual (defArgs sx) (defBody sx) (defScope sx) .none kV doc pm an cdv ct) ⟨us, []⟩ = pure (ps.zip us)) : DefK K mg dnl ct key d := by
  obtain ⟨fd, F⟩ := F
  simp only [Bool.and_eq_true, Bool.not_eq_true', List.all_eq_true, Bool.or_eq_true, decide_eq_true_eq, decide_eq_false_iff_not] at nc
  have hC : ClsAt K c (He.ga K c) := He.eqO_ok a
  refine ⟨He.ma K (He.ga K c) m, m, qual, sx, fd, N, ps, ⟨fun hd => ?_, fun c' hc => ?_, fun c' m' hc => ?_, fun c' m' hc => ?_, fun c' hc => ?_⟩, F, S, hnp, hns, ck, F.bindsN hb⟩
  · have := nc.1.1.1.1
    rw [List.contains_iff_mem.mpr hd] at this
    cases this
  · rcases nc.1.1.1.2 _ hc with q | ⟨rfl, rfl⟩
    · simp at q
    · exact ⟨_, He.glo_ok X G a, hC, He.mkr_ok (mk rfl)⟩
  · rcases nc.1.1.2 _ hc with q | ⟨rfl, rfl⟩
    · simp at q
    · exact ⟨_, hC, He.cls_ok ac, He.meth_ok am⟩
  · have q := nc.1.2 _ hc
    simp at q
  · rcases nc.2 _ hc with q | ⟨rfl, rfl⟩
    · simp at q
    · have hM := He.meth_ok am
      exact ⟨_, hC, List.all_eq_true.mp ho _ hc, hM.at_, hM.fn⟩
/-- a property's getter -/
theorem dkp {dnl : List Str} {ct : Ct} {K : PySem.W.Frag} {mg : Str → Option Value} {key : Str} {sx : Stmt} {N ps : List Str} {d : Df} {dd : PrD}
    (F : (∃ fd, FunD K dd.name dd.qual dd.params dd.body dd.scope [] [] (pgA K dd.cls dd.prop) fd) ∧ (He.Fa.glo dd.cls).ok K = true ∧ (He.Fa.cls dd.cls).ok K = true ∧ PropOf K (He.ga K dd.cls) dd.prop (pqA K dd.cls dd.prop) (pgA K dd.cls dd.prop))
    (hpa : dd.params = defArgs sx) (hbo : dd.body = defBody sx) (hsc : dd.scope = defScope sx)
    (nc : (!dnl.contains key && ct.cn.all (fun p => !decide (p.2 = key)) && ct.mn.all (fun p => !decide (p.2.2 = key)) && ct.pn.all (fun p => !decide (p.2.2 = key) || (decide (p.1 = dd.cls) && decide (p.2.1 = dd.prop))) && ct.on.all (fun p => !decide (p.2 = key))) = true)
    (S : FnScope N ps (defScope sx)) (hnp : d.np = ps.length) (hns : d.ns = N.length) (ck : ckSs (ckOf N dnl ct (defScope sx)) d.body (defBody sx) = true)
    (hb : ∀ (kV doc pm : Value) (an : Option Addr) (cdv ct : Value) (us : List Value), us.length = ps.length → bindArgs (PySem.W.fnOf dd.name dd.qual (defArgs sx) (defBody sx) (defScope sx) .none kV doc pm an cdv ct) ⟨us, []⟩ = pure (ps.zip us)) : DefK K mg dnl ct key d := by
  obtain ⟨⟨fd, F⟩, f1, f2, f3⟩ := F
  rw [hpa, hbo, hsc] at F
  simp only [Bool.and_eq_true, Bool.not_eq_true', List.all_eq_true, Bool.or_eq_true, decide_eq_true_eq, decide_eq_false_iff_not] at nc
  refine ⟨pgA K dd.cls dd.prop, dd.name, dd.qual, sx, fd, N, ps, ⟨fun hd => ?_, fun c' hc => ?_, fun c' m' hc => ?_, fun c' m' hc => ?_, fun c' hc => ?_⟩, F, S, hnp, hns, ck, F.bindsN hb⟩
  · have := nc.1.1.1.1
    rw [List.contains_iff_mem.mpr hd] at this
    cases this
  · have q := nc.1.1.1.2 _ hc
    simp at q
  · have q := nc.1.1.2 _ hc
    simp at q
  · rcases nc.1.2 _ hc with q | ⟨q1, q2⟩
    · simp at q
    · simp only at q1 q2
      subst q1 q2
      exact ⟨_, _, He.eqO_ok f1, He.cls_ok f2, f3⟩
  · have q := nc.2 _ hc
    simp at q
/-- the fields -/
theorem att_ok {K : PySem.W.Frag} {ct : Ct} (h : ∀ q ∈ ct.an, (He.Fa.glo q.1).ok K = true ∧ (He.Fa.cls q.1).ok K = true ∧ (He.Fa.noat q.1 q.2).ok K = true) : ∀ c f, (c, f) ∈ ct.an → ∃ C, ClsAt K c C ∧ Cls K C ∧ NoAttr K C f := fun c f hc =>
  let ⟨h1, h2, h3⟩ := h _ hc
  ⟨He.ga K c, He.eqO_ok h1, He.cls_ok h2, He.eqO_ok h3⟩
/-- the whole, from the facts about the text -/
theorem law_all {P : Program} {K : PySem.W.Frag} {h : Heap} {mg : Str → Option Value} {fa : Addr} {w : World} {tb : List (Str × Df)} {dnl : List Str} {ct : Ct} {G : Glb} {n k : Nat} {x : Str} {sx : Stmt} {N : List Str} {d : Df}
    (X : K.In h) (Gn : h.Ns mainGlobals mg) (hfa : mg "law" = some (.ref fa)) (hw : wholeB tb dnl ct = true)
    (a : (He.Fa.glo "law").ok K = true) (F : ∃ fd, FunD K "law" "law" (defArgs sx) (defBody sx) (defScope sx) [] [] (He.ga K "law") fd) (S : FnScope N [x] (defScope sx)) (hnp : d.np = 1) (hns : d.ns = N.length) (ck : ckSs (ckOf N dnl ct (defScope sx)) d.body (defBody sx) = true)
    (hb : ∀ (kV doc pm : Value) (an : Option Addr) (cdv ct : Value) (us : List Value), us.length = 1 → bindArgs (PySem.W.fnOf "law" "law" (defArgs sx) (defBody sx) (defScope sx) .none kV doc pm an cdv ct) ⟨us, []⟩ = pure ([x].zip us))
    (hd : ∀ p ∈ tb, DefK K mg dnl ct p.1 p.2)
    (hatt : ∀ q ∈ ct.an, (He.Fa.glo q.1).ok K = true ∧ (He.Fa.cls q.1).ok K = true ∧ (He.Fa.noat q.1 q.2).ok K = true)
    (hex : ∀ c f, (c, f) ∈ ct.xn → XnOk K mg c f) (hxk : XcOk K mg ct)
    (hglb : ∀ x d, G x = some d → GOf w K mg x d)
    (hblt : ∀ x ∈ bltAll, mg x = none)
    (hp : Plain (runD (tab (fun f => tb.lookup f) G k) G d) n) :
    ∃ fd : FuncData, (∀ (s : Shared) (v : Value), BindsTo s fd ⟨[v], []⟩ [(x, v)]) ∧ ∀ base : Heap, K.In base → base.Ns mainGlobals mg → FnOk P w K mg base (L2.CX P w) (2 * k + 4) fa fd [x] (spLaw K n) := by
  have e := hfa.symm.trans (He.glo_ok X Gn a)
  cases e
  obtain ⟨fd, F⟩ := F
  have b := FunD.bindsA (ps := [x]) F hb
  refine ⟨fd, fun s v => b s [v] rfl, fun base _ _ => ?_⟩
  exact FnOk.imp (step_ok (wholeB_ok hw) (att_ok hatt) hex hxk hglb hblt (fun g hg => tab_ok (wholeB_ok hw) hd (att_ok hatt) hex hxk hglb hblt k g hg) F S hnp hns ck) (law_sp hp)
/-! the globals by a list -/
theorem GV.nodic {K : PySem.W.Frag} {u : Value} {d : D} (g : GV K u d) : d.isDic = false := by cases g <;> rfl
mutual
theorem gvB_ok {K : PySem.W.Frag} : ∀ (d : D) {u : Value}, gvB K d u = true → GV K u d
  | .int j, u, h => by
    unfold gvB at h; split at h <;> try cases h
    simp only [decide_eq_true_eq] at h; subst h; exact .int _ _
  | .str j, u, h => by
    unfold gvB at h; split at h <;> try cases h
    simp only [decide_eq_true_eq] at h; subst h; exact .str _ _
  | .bool j, u, h => by
    unfold gvB at h; split at h <;> try cases h
    simp only [beq_iff_eq] at h; subst h; exact .bl _
  | .none, u, h => by
    unfold gvB at h; split at h <;> try cases h
    exact .non
  | .tup ds, u, h => by
    unfold gvB at h; split at h <;> try cases h
    split at h <;> try cases h
    rename_i p c dd us n sl hl
    simp only [Bool.and_eq_true, decide_eq_true_eq] at h
    obtain ⟨⟨rfl, h1⟩, h2⟩ := h
    have h1 := Nat.le_of_ble_eq_true h1
    exact .tup (us := us.toList) (by rw [Array.toArray_toList]; exact hl) (Nat.le_of_lt (small1000 h1)) (gvsB_ok ds h2)
  | .lst ds, u, h => by
    unfold gvB at h; split at h <;> try cases h
    split at h <;> try cases h
    rename_i p c us n sl hl
    simp only [Bool.and_eq_true, decide_eq_true_eq] at h
    obtain ⟨⟨⟨rfl, hsl⟩, h1⟩, h2⟩ := h
    have hsl : sl = #[] := by simpa using hsl
    subst hsl
    have h1 := Nat.le_of_ble_eq_true h1
    exact .lst (us := us.toList) (by rw [Array.toArray_toList]; exact hl) (Nat.le_of_lt (small1000 h1)) (gvsB_ok ds h2)
  | .dic _, u, h => by simp [gvB] at h
  | .loc _, u, h => by simp [gvB] at h
  | .ty _, u, h => by simp [gvB] at h
  | .obj _ _, u, h => by simp [gvB] at h
theorem gvsB_ok {K : PySem.W.Frag} : ∀ (ds : List D) {us : List Value}, gvsB K ds us = true → GVs K us ds
  | [], us, h => by
    unfold gvsB at h
    cases us with
    | nil => exact .nil
    | cons _ _ => cases h
  | d :: ds, us, h => by
    unfold gvsB at h
    cases us with
    | nil => cases h
    | cons u us =>
      simp only [Bool.and_eq_true] at h
      exact .cons (gvB_ok d h.1) (gvsB_ok ds h.2)
end
theorem gk {K : PySem.W.Frag} {h : Heap} {w : World} {mg : Str → Option Value} (X : K.In h) (G : h.Ns mainGlobals mg) {x : Str} {d : D} (a : gB K x d = true) : GOf w K mg x d := by
  unfold gB at a
  split at a <;> try cases a
  rename_i u hu
  have g := gvB_ok d a
  obtain ⟨v, h1, h2⟩ := g.rel
  exact .inr ⟨g.nodic, .inl ⟨u, v, PySem.W.mg_of X G hu, h1, h2⟩⟩
theorem gt {K : PySem.W.Frag} {w : World} {mg : Str → Option Value} {x : Str} {n : String} (a : mg x = none) (hn : x ≠ "__name__") (b : bootBuiltins x = some (.type n)) : GOf w K mg x (.ty n) :=
  .inr ⟨rfl, .inr ⟨a, hn, _, .ty n, b, rfl, fun _ _ _ => .ty n⟩⟩
theorem esB_ok {K : PySem.W.Frag} : ∀ (l : List DictEntry) {kvs : List (D × D)}, esB K l kvs = true → EsR K l kvs
  | [], kvs, h => by
    unfold esB at h
    cases kvs with
    | nil => exact .nil
    | cons _ _ => cases h
  | e :: r, kvs, h => by
    unfold esB at h
    split at h <;> try cases h
    · rename_i x t y d rs hk
      simp only [Bool.and_eq_true, decide_eq_true_eq] at h
      obtain ⟨⟨rfl, h1⟩, h2⟩ := h
      exact .cons (k := .inr x) (by rw [hk]; exact keyIs_str x t) (gvB_ok d h1) (esB_ok r h2)
    · rename_i x t y d rs hk
      simp only [Bool.and_eq_true, decide_eq_true_eq] at h
      obtain ⟨⟨rfl, h1⟩, h2⟩ := h
      exact .cons (k := .inl x) (by rw [hk]; exact keyIs_int x t) (gvB_ok d h1) (esB_ok r h2)
theorem gkd {K : PySem.W.Frag} {h : Heap} {w : World} {mg : Str → Option Value} (X : K.In h) (G : h.Ns mainGlobals mg) {x : Str} {kvs : List (D × D)} (a : (He.Fa.glo x).ok K = true)
    (b : ∃ es n, KDict K w (He.ga K x) es n) (c : gdB K (He.ga K x) kvs = true) : GOf w K mg x (.dic kvs) := by
  obtain ⟨es, n, D⟩ := b
  refine .inl ⟨kvs, rfl, _, es, n, He.glo_ok X G a, ⟨D.at_, fun e he => ?_, D.low⟩, esB_ok _ ?_⟩
  · obtain ⟨x, t, h1, h2⟩ := D.lit.all e (Array.mem_toList_iff.mpr he)
    exact ⟨.inr x, by rw [h1]; exact keyIs_str x t, h2⟩
  · unfold gdB at c
    rw [D.at_] at c
    exact c
theorem gki {K : PySem.W.Frag} {h : Heap} {w : World} {mg : Str → Option Value} (X : K.In h) (G : h.Ns mainGlobals mg) {x : Str} {kvs : List (D × D)} (a : (He.Fa.glo x).ok K = true)
    (c : giB K (He.ga K x) kvs = true) : GOf w K mg x (.dic kvs) := by
  unfold giB at c
  split at c <;> try cases c
  rename_i cc es n sl hl
  simp only [Bool.and_eq_true, decide_eq_true_eq] at c
  obtain ⟨⟨⟨⟨rfl, hsl⟩, hlow⟩, hk⟩, he⟩ := c
  have hsl : sl = #[] := by simpa using hsl
  subst hsl
  refine .inl ⟨kvs, rfl, _, es, n, He.glo_ok X G a, ⟨hl, fun e he => ?_, by simpa using hlow⟩, esB_ok _ he⟩
  have q := List.all_eq_true.mp hk e (Array.mem_toList_iff.mpr he)
  split at q <;> try cases q
  rename_i i t hi
  exact ⟨.inl i, by rw [hi]; exact keyIs_int i t, (beq_iff_eq.mp q : e.hash = hashInt i)⟩
theorem glb_all {w : World} {K : PySem.W.Frag} {mg : Str → Option Value} {l : List (Str × D)} (h : ∀ p ∈ l, GOf w K mg p.1 p.2) : ∀ x d, glbOf l x = some d → GOf w K mg x d :=
  fun x d e => h (x, d) (PySem.mem_of_lookup e)
end Pv
namespace Pv
open PySem PySem.Spec PyProof.Rows L2
/-! the head: facts of the top, read off its run -/
theorem law_said {K : PySem.W.Frag} {n : Nat} : ∀ (H : Hp) (a : Addr) (ns : List Int), ns.length ≤ n → Only H → SqL K H a (ns.map V.int) → spLaw K n [.ref a] H (fun v _ => v = .bl true) fun _ _ _ => False := fun H a ns hl _ hS => ⟨a, ns, rfl, hS, hl, fun _ => rfl⟩
/-- a law over a head by facts -/
theorem walkP {l : PySem.W.OpenLaw} {n k : Nat} {q : Program} {loose : List Str} {XP : (Str → Option Value) → Heap → Prop} {YP : World → Heap → Prop} {d : DefRec} {x : Str}
    (hn : l.most = some n) (hn2 : n ≤ sizeLine) (hdf : d.params.defaults = []) (hr : Room k callerA)
    (F : ∀ (w : World) (mg : Str → Option Value) (fa : Addr) (h : Heap), YP w h → h.Ns mainGlobals mg → mg d.name = some (.ref fa) →
      ∃ (K : PySem.W.Frag) (fd : FuncData), K.In h ∧ (∀ (s : Shared) (u : Value), BindsTo s fd ⟨[u], []⟩ [(x, u)]) ∧
        ∀ base : Heap, K.In base → base.Ns mainGlobals mg → FnOk l.prog w K mg base (L2.CX l.prog w) k fa fd [x] (spLaw K n)) :
    PySem.W.WalkO q loose XP YP l.row.toRowW d [] (fun f vs => PySem.call f vs) := by
  refine Att.attach_call hn hdf fun w s₀ s₁ mg mb fa o pm cd doc a vs ns G Y ho hd hcd hmg hobj hints hlen hg => ?_
  obtain ⟨K, fd, KX, hb, hF⟩ := F w mg fa _ Y G.T.g hmg
  exact law_call KX G.T.g G.T.b G.T.builtins G.T.nolimit hg hobj hints (Nat.le_trans hlen hn2) hr hF hb (fun H hO hS => law_said H a ns hlen hO hS) fun H e s' => cx_none
end Pv
namespace Pv
open PySem PySem.Spec PyProof.Rows L2
theorem all_nil {α : Type} {P : α → Prop} : ∀ p ∈ ([] : List α), P p := by intro p h; simp at h
theorem all_cons {α : Type} {P : α → Prop} {a : α} {l : List α} (h : P a) (hl : ∀ p ∈ l, P p) : ∀ p ∈ a :: l, P p := by
  intro p hp
  rcases List.mem_cons.mp hp with rfl | hp
  · exact h
  · exact hl p hp
end Pv
namespace Pv
open PySem PySem.Spec PyProof.Rows L2
/-! ## own errors, by facts of the frozen heap -/
theorem oexB_ok {K : PySem.W.Frag} {C : Addr} (h : oexB K C = true) : OexC K C := by
  unfold oexB at h
  obtain ⟨h0, h⟩ := He.ba h
  obtain ⟨h1, h⟩ := He.ba h
  obtain ⟨h2, h⟩ := He.ba h
  obtain ⟨h3, h4⟩ := He.ba h
  refine ⟨?_, He.eqO_ok h1, of_decide_eq_true h2, of_decide_eq_true h3, h4⟩
  split at h0 <;> try cases h0
  rename_i dd cd sl ho
  split at h0 <;> try cases h0
  rename_i C' bm k0 k1 k2 k3 n k5 hm hs
  simp only [Bool.and_eq_true, beq_iff_eq, Bool.not_eq_true'] at h0
  obtain ⟨⟨⟨⟨rfl, rfl⟩, hdel⟩, hdi⟩, ht⟩ := h0
  obtain ⟨nm, bs, mro, ns, qn, hd, sn, sub, ab, col, del⟩ := cd
  dsimp only at hm hdel hdi
  subst hm hdel hdi
  have hsl : sl = #[k0, k1, k2, k3, some (.builtin "ValueError.__new__"), k5] := by
    obtain ⟨l⟩ := sl
    simp only at hs
    rw [hs]
  subst hsl
  exact ⟨nm, qn, ns, bs, bm, sn, sub, ab, col, dd, k0, k1, k2, k3, k5, ho, ht⟩
theorem excB_ok {K : PySem.W.Frag} {D : Addr} (h : excB K D = true) : ExcC K D := by
  unfold excB at h
  obtain ⟨h1, h⟩ := He.ba h
  obtain ⟨h2, h⟩ := He.ba h
  obtain ⟨h3, h⟩ := He.ba h
  obtain ⟨h4, h⟩ := He.ba h
  obtain ⟨h5, h⟩ := He.ba h
  obtain ⟨h6, h⟩ := He.ba h
  obtain ⟨h7, h8⟩ := He.ba h
  exact ⟨He.eqO_ok h1, He.eqO_ok h2, of_decide_eq_true h3, h4, He.eqO_ok h5, He.eqO_ok h6, of_decide_eq_true h7, of_decide_eq_true h8⟩
section
variable {K : PySem.W.Frag} {h : Heap} {mg : Str → Option Value}
theorem cvOf_ok (X : K.In h) (G : h.Ns mainGlobals mg) {t : Str} {cv : Value} (e : cvOf K t = some cv) : CvOk mg t cv := by
  unfold cvOf at e
  split at e <;> try cases e
  · rename_i a q
    exact .inl ⟨PySem.W.mg_of X G q, a, rfl⟩
  · rename_i q
    split at e <;> try cases e
    rename_i hn
    split at e <;> try cases e
    rename_i n hb
    exact .inr ⟨PySem.W.mg_none_of X G q, hn, hb, n, rfl⟩
theorem cvsOf_ok (X : K.In h) (G : h.Ns mainGlobals mg) : ∀ {cs : List Str} {cvs : List Value}, cvsOf K cs = some cvs → CvsOk mg cs cvs
  | [], cvs, e => by cases e; exact .nil
  | t :: r, cvs, e => by
    simp only [cvsOf, Option.bind_eq_some_iff, Option.map_eq_some_iff] at e
    obtain ⟨c, h1, cs, h2, rfl⟩ := e
    exact .cons (cvOf_ok X G h1) (cvsOf_ok X G h2)
theorem optB_ok {α : Type} [DecidableEq α] {a : Option α} {b : α} (h : optB a b = true) : a = some b := by
  unfold optB at h
  split at h
  · rw [of_decide_eq_true h]
  · cases h
theorem insB_ok {c : Str} (h : insB K c = true) : InsO K (He.ga K c) := by
  unfold insB at h
  obtain ⟨h1, h⟩ := He.ba h
  obtain ⟨h2, h⟩ := He.ba h
  obtain ⟨h3, h⟩ := He.ba h
  obtain ⟨h4, h⟩ := He.ba h
  obtain ⟨h5, h6⟩ := He.ba h
  exact ⟨He.cls_ok h1, He.eqO_ok h2, He.eqO_ok h3, of_decide_eq_true h4, of_decide_eq_true h5, of_decide_eq_true h6⟩
theorem xcB_ok (X : K.In h) (G : h.Ns mainGlobals mg) {ct : Ct} (b : xcB K ct = true) : XcOk K mg ct := by
  unfold xcB at b
  obtain ⟨b1, b⟩ := He.ba b
  obtain ⟨b2, b⟩ := He.ba b
  obtain ⟨b3, b⟩ := He.ba b
  obtain ⟨b4, b5⟩ := He.ba b
  refine ⟨fun c cs r hc => ?_, fun c f hc => ?_, fun c t r hc => ?_, fun c hc => ?_, fun c hc => ?_⟩
  · have q := List.all_eq_true.mp b1 _ hc
    obtain ⟨q1, q⟩ := He.ba q
    obtain ⟨q2, q3⟩ := He.ba q
    simp only at q1 q2 q3
    split at q3 <;> try cases q3
    rename_i cvs hcv
    exact ⟨_, cvs, PySem.W.mg_of X G (He.eqO_ok q1), excB_ok q2, cvsOf_ok X G hcv, optB_ok q3⟩
  · have q := List.all_eq_true.mp b2 _ hc
    obtain ⟨q1, q⟩ := He.ba q
    obtain ⟨q2, q3⟩ := He.ba q
    exact ⟨_, PySem.W.mg_of X G (He.eqO_ok q1), xfB_ok q2, He.eqO_ok q3⟩
  · have q := List.all_eq_true.mp b3 _ hc
    obtain ⟨q1, q3⟩ := He.ba q
    simp only at q1 q3
    split at q3 <;> try cases q3
    rename_i cv hcv
    exact ⟨_, cv, PySem.W.mg_of X G (He.eqO_ok q1), cvOf_ok X G hcv, optB_ok q3⟩
  · have q := List.all_eq_true.mp b4 _ hc
    obtain ⟨q1, q2⟩ := He.ba q
    exact ⟨_, PySem.W.mg_of X G (He.eqO_ok q1), He.eqO_ok q1, insB_ok q2⟩
  · have q := List.all_eq_true.mp b5 _ hc
    obtain ⟨q1, q2⟩ := He.ba q
    obtain ⟨r1, r2, r3, r4⟩ := He.exc_ok q2
    exact ⟨_, PySem.W.mg_of X G (He.eqO_ok q1), r1, r2, r3, r4⟩
theorem xn1 (X : K.In h) (G : h.Ns mainGlobals mg) {c f n0 n1 x qual : Str} {sx : Stmt} (b : xnB K c [f] = true)
    (F : ∃ fd, FunD K x qual (defArgs sx) (defBody sx) (defScope sx) [] [] (He.ma K (He.ga K c) "__init__") fd) (S : FnScope [n0, n1] [n0, n1] (defScope sx))
    (hbd : ∃ p1 p2 p3 p4, defBody sx = [.Assign [.Attribute (.Name n0 p1) f p2] (.Name n1 p3) p4])
    (v : (visB (defScope sx) n0 && visB (defScope sx) n1 && okN n0 && okN n1) = true)
    (hb : ∀ (kV doc pm : Value) (an : Option Addr) (cdv ct : Value) (us : List Value), us.length = 2 → bindArgs (PySem.W.fnOf x qual (defArgs sx) (defBody sx) (defScope sx) .none kV doc pm an cdv ct) ⟨us, []⟩ = pure ([n0, n1].zip us)) : XnOk K mg c [f] := by
  unfold xnB at b
  obtain ⟨b1, b⟩ := He.ba b
  obtain ⟨b2, b⟩ := He.ba b
  obtain ⟨b3, b⟩ := He.ba b
  obtain ⟨b4, b5⟩ := He.ba b
  obtain ⟨fd, F⟩ := F
  obtain ⟨p1, p2, p3, p4, hbd⟩ := hbd
  simp only [Bool.and_eq_true] at v
  exact ⟨_, _, fd, _, PySem.W.mg_of X G (He.eqO_ok b1), oexB_ok b2, He.eqO_ok b3, of_decide_eq_true b4, fun P w base => init1_ok (k := 0) F S hbd (vis_of v.1.1.1) (vis_of v.1.1.2) v.1.2 v.2,
    fun g hg => He.eqO_ok (List.all_eq_true.mp b5 g hg), F.bindsN hb⟩
theorem xn2 (X : K.In h) (G : h.Ns mainGlobals mg) {c f f2 n0 n1 n2 x qual : Str} {sx : Stmt} (b : xnB K c [f, f2] = true)
    (F : ∃ fd, FunD K x qual (defArgs sx) (defBody sx) (defScope sx) [] [] (He.ma K (He.ga K c) "__init__") fd) (S : FnScope [n0, n1, n2] [n0, n1, n2] (defScope sx))
    (hbd : ∃ p1 p2 p3 p4 p5 p6 p7 p8 p9 kt k2, defBody sx = [.Assign [.Tuple [.Attribute (.Name n0 p1) f p2, .Attribute (.Name n0 p3) f2 p4] kt p5] (.Tuple [.Name n1 p6, .Name n2 p7] k2 p8) p9])
    (v : (visB (defScope sx) n0 && visB (defScope sx) n1 && visB (defScope sx) n2 && okN n0 && okN n1 && okN n2) = true)
    (hb : ∀ (kV doc pm : Value) (an : Option Addr) (cdv ct : Value) (us : List Value), us.length = 3 → bindArgs (PySem.W.fnOf x qual (defArgs sx) (defBody sx) (defScope sx) .none kV doc pm an cdv ct) ⟨us, []⟩ = pure ([n0, n1, n2].zip us)) : XnOk K mg c [f, f2] := by
  unfold xnB at b
  obtain ⟨b1, b⟩ := He.ba b
  obtain ⟨b2, b⟩ := He.ba b
  obtain ⟨b3, b⟩ := He.ba b
  obtain ⟨b4, b5⟩ := He.ba b
  obtain ⟨fd, F⟩ := F
  obtain ⟨p1, p2, p3, p4, p5, p6, p7, p8, p9, kt, k2, hbd⟩ := hbd
  simp only [Bool.and_eq_true] at v
  exact ⟨_, _, fd, _, PySem.W.mg_of X G (He.eqO_ok b1), oexB_ok b2, He.eqO_ok b3, of_decide_eq_true b4, fun P w base => init2_ok (k := 0) F S hbd (vis_of v.1.1.1.1.1) (vis_of v.1.1.1.1.2) (vis_of v.1.1.1.2) v.1.1.2 v.1.2 v.2,
    fun g hg => He.eqO_ok (List.all_eq_true.mp b5 g hg), F.bindsN hb⟩
end
end Pv
namespace Pv
open PySem (Str Operator CmpOp)
/-! ## reckoning with the evaluator: equations for simp -/
section
variable {B : Tab} {G : Glb} {e : En} {s : Sto} {c a b d : E} {es r : Es} {i n : Nat} {x y : D}
@[simp] theorem ev_int {j : Int} : ev B G (.int j) e s = .ok (.int j, false) e s := by rw [ev]
@[simp] theorem ev_str {z : Str} : ev B G (.str z) e s = .ok (.str z, false) e s := by rw [ev]
@[simp] theorem ev_bl {z : Bool} : ev B G (.bl z) e s = .ok (.bool z, false) e s := by rw [ev]
@[simp] theorem ev_non : ev B G .non e s = .ok (.none, false) e s := by rw [ev]
@[simp] theorem ev_var : ev B G (.var i) e s = match e[i]? with
    | some (.fr d) => .ok (d, false) e s
    | some (.ow d) => .ok (d, false) (e.set i (.fr d)) s
    | _ => .no := by rw [ev] <;> rfl
@[simp] theorem ev_gl {z : Str} : ev B G (.gl z) e s = .of ((G z).bind noDic) e s := by rw [ev]
@[simp] theorem noDic_int {j : Int} : noDic (.int j) = some (.int j, false) := (rfl)
@[simp] theorem noDic_str {j : Str} : noDic (.str j) = some (.str j, false) := (rfl)
@[simp] theorem noDic_bool {j : Bool} : noDic (.bool j) = some (.bool j, false) := (rfl)
@[simp] theorem noDic_none : noDic .none = some (.none, false) := (rfl)
@[simp] theorem noDic_tup {j : List D} : noDic (.tup j) = some (.tup j, false) := (rfl)
@[simp] theorem noDic_lst {j : List D} : noDic (.lst j) = some (.lst j, false) := (rfl)
@[simp] theorem noDic_ty {j : String} : noDic (.ty j) = some (.ty j, false) := (rfl)
@[simp] theorem noDic_obj {c : Str} {l : List (Str × D)} : noDic (.obj c l) = some (.obj c l, false) := (rfl)
def kDct (l : Bool) : List Ar → En → Sto → R DB := fun as e s => match rd e as with
    | some ds => (match mkKD [] ds with
      | some kvs => if ds.length ≤ 30 then stow l (.dic kvs) (fz e as) s else .no
      | none => .no)
    | none => .no
@[simp] theorem kDct_eq {l : Bool} {as : List Ar} : kDct l as e s = match rd e as with
    | some ds => (match mkKD [] ds with
      | some kvs => if ds.length ≤ 30 then stow l (.dic kvs) (fz e as) s else .no
      | none => .no)
    | none => .no := (rfl)
@[simp] theorem ev_dct {l : Bool} : ev B G (.dct l es) e s = (ag B G es e s).bind (kDct l) := by rw [ev]; rfl
@[simp] theorem mkKD_nil {l : List (D × D)} : mkKD l [] = some l := by rw [mkKD]
@[simp] theorem mkKD_cons {l : List (D × D)} {k v : D} {r : List D} : mkKD l (k :: v :: r) = if k.key then mkKD (putKD l k v) r else none := by rw [mkKD]
@[simp] theorem key_int {j : Int} : (D.int j).key = true := (rfl)
@[simp] theorem key_str {j : Str} : (D.str j).key = true := (rfl)
@[simp] theorem sameK_ii {j k : Int} : sameK (.int j) (.int k) = decide (j = k) := (rfl)
@[simp] theorem sameK_is {j : Int} {k : Str} : sameK (.int j) (.str k) = false := (rfl)
@[simp] theorem sameK_si {j : Str} {k : Int} : sameK (.str j) (.int k) = false := (rfl)
@[simp] theorem lookK_nil {k : D} : lookK [] k = none := (rfl)
@[simp] theorem lookK_cons {c v k : D} {r : List (D × D)} : lookK ((c, v) :: r) k = if sameK c k then some v else lookK r k := (rfl)
@[simp] theorem putKD_eq {l : List (D × D)} {k v : D} : putKD l k v = if (lookK l k).isSome then l.map (fun p => if sameK p.1 k then (p.1, v) else p) else l ++ [(k, v)] := (rfl)
def kStt2 (as : List Ar) : DB → En → Sto → R DB := fun d e s => match rd e as, d.1 with
    | some ds, .lst xs => if ds.length + xs.length ≤ sizeMax then .ok (.tup (ds ++ xs), false) (fz e as) s else .no
    | _, _ => .no
@[simp] theorem kStt2_eq {as : List Ar} {w : Bool} {xs : List D} : kStt2 as (.lst xs, w) e s = match rd e as with
    | some ds => if ds.length + xs.length ≤ sizeMax then .ok (.tup (ds ++ xs), false) (fz e as) s else .no
    | none => .no := by unfold kStt2; cases rd e as <;> rfl
def kStt (B : Tab) (G : Glb) (c : E) : List Ar → En → Sto → R DB := fun as e s => (ev B G c e s).bind (kStt2 as)
@[simp] theorem kStt_eq {as : List Ar} : kStt B G c as e s = (ev B G c e s).bind (kStt2 as) := (rfl)
@[simp] theorem ev_stt : ev B G (.stt es c) e s = (ag B G es e s).bind (kStt B G c) := by
  rw [ev]; rfl
def kStL (l : Bool) : List D → En → Sto → R DB := fun ds e s => stow l (.lst ds) e s
@[simp] theorem kStL_eq {l : Bool} {ds : List D} : kStL l ds e s = stow l (.lst ds) e s := (rfl)
def kCom (B : Tab) (G : Glb) (l : Bool) (a : E) (t : T) (cs : Es) (vs : List Nat) : List D → En → Sto → R DB := fun xs e s => (R.nox (compL (cmpF B G a t cs vs) xs [] (wipeE e vs) s)).bind (kStL l)
@[simp] theorem kCom_eq {l : Bool} {t : T} {cs : Es} {vs : List Nat} {xs : List D} : kCom B G l a t cs vs xs e s = (R.nox (compL (cmpF B G a t cs vs) xs [] (wipeE e vs) s)).bind (kStL l) := (rfl)
@[simp] theorem ev_comp {l : Bool} {t : T} {it : I} {cs : Es} {own : List (Str × Nat)} : ev B G (.comp l a t it cs own) e s = (its B G it e s).bind (kCom B G l a t cs (own.map (·.2))) := by rw [ev]; rfl
def kStD (l : Bool) : List (D × D) → En → Sto → R DB := fun ds e s => stow l (.dic ds) e s
@[simp] theorem kStD_eq {l : Bool} {ds : List (D × D)} : kStD l ds e s = stow l (.dic ds) e s := (rfl)
def kCmo (B : Tab) (G : Glb) (l : Bool) (a : E) (t : T) (i : Nat) (cs : Es) (vs : List Nat) : Option Sl → En → Sto → R DB := fun o e s => match o with
  | some (.ow (.lst xs)) => (R.nox (compL (cmpF B G a t cs vs) xs [] (wipeE (e.set i .un) vs) s)).bind fun ds e s => kStL l ds (e.set i (.ow (.lst xs))) s
  | _ => .no
def kCmk (l : Bool) (i : Nat) (xs : List D) : List D → En → Sto → R DB := fun ds e s => kStL l ds (e.set i (.ow (.lst xs))) s
@[simp] theorem kCmk_eq {l : Bool} {i : Nat} {xs ds : List D} {e : En} {s : Sto} : kCmk l i xs ds e s = kStL l ds (e.set i (.ow (.lst xs))) s := (rfl)
@[simp] theorem kCmo_eq {l : Bool} {t : T} {cs : Es} {vs : List Nat} {xs : List D} : kCmo B G l a t i cs vs (some (.ow (.lst xs))) e s = (R.nox (compL (cmpF B G a t cs vs) xs [] (wipeE (e.set i .un) vs) s)).bind (kCmk l i xs) := (rfl)
@[simp] theorem ev_cmo {l : Bool} {t : T} {cs : Es} {own : List (Str × Nat)} : ev B G (.cmo l a t i cs own) e s = kCmo B G l a t i cs (own.map (·.2)) e[i]? e s := by rw [ev]; rfl
def kCmd (B : Tab) (G : Glb) (l : Bool) (a : E) (t : T) (cs : Es) (vs : List Nat) : Option Sl → En → Sto → R DB := fun o e s => match o with
  | some (.fr (.dic kvs)) => (R.nox (compL (cmpF B G a t cs vs) (dkL 0 kvs) [] (wipeE e vs) s)).bind (kStL l)
  | _ => .no
@[simp] theorem kCmd_eq {l : Bool} {t : T} {cs : Es} {vs : List Nat} {kvs : List (D × D)} : kCmd B G l a t cs vs (some (.fr (.dic kvs))) e s = (R.nox (compL (cmpF B G a t cs vs) (dkL 0 kvs) [] (wipeE e vs) s)).bind (kStL l) := (rfl)
@[simp] theorem ev_cmd {l : Bool} {t : T} {cs : Es} {own : List (Str × Nat)} : ev B G (.cmd l a t i cs own) e s = kCmd B G l a t cs (own.map (·.2)) (fz1 e i)[i]? (fz1 e i) s := by rw [ev]; rfl
@[simp] theorem cmsF_ev {t : T} {cs : Es} {vs : List Nat} {n : Nat} {xs : List D} {x : D} : cmsF B G a t cs vs n xs x e s = if isL s n xs then cmpF B G a t cs vs x e s else .no := (rfl)
def kCml (l : Bool) (n : Nat) (xs : List D) : List D → En → Sto → R DB := fun ds e s => if isL s n xs then stow l (.lst ds) e s else .no
@[simp] theorem kCml_eq {l : Bool} {n : Nat} {xs ds : List D} : kCml l n xs ds e s = if isL s n xs then stow l (.lst ds) e s else .no := (rfl)
def kCms (B : Tab) (G : Glb) (l : Bool) (a : E) (t : T) (cs : Es) (vs : List Nat) : DB → En → Sto → R DB := fun d e s => match d.1 with
  | .loc n => (match s[n]? with
    | some (.lst xs) => (R.nox (compL (cmsF B G a t cs vs n xs) xs [] (wipeE e vs) s)).bind (kCml l n xs)
    | _ => .no)
  | _ => .no
@[simp] theorem kCms_eq {l w : Bool} {n : Nat} {t : T} {cs : Es} {vs : List Nat} : kCms B G l a t cs vs (.loc n, w) e s = match s[n]? with
    | some (.lst xs) => (R.nox (compL (cmsF B G a t cs vs n xs) xs [] (wipeE e vs) s)).bind (kCml l n xs)
    | _ => .no := (rfl)
@[simp] theorem ev_cms {l : Bool} {t : T} {o : E} {cs : Es} {own : List (Str × Nat)} : ev B G (.cms l a t o cs own) e s = (ev B G o e s).bind (kCms B G l a t cs (own.map (·.2))) := by rw [ev]; rfl
def kDcm (B : Tab) (G : Glb) (l : Bool) (a b : E) (t : T) (cs : Es) (vs : List Nat) : List D → En → Sto → R DB := fun xs e s => (R.nox (compD (dcmF B G a b t cs vs) xs [] (wipeE e vs) s)).bind (kStD l)
@[simp] theorem kDcm_eq {l : Bool} {t : T} {cs : Es} {vs : List Nat} {xs : List D} : kDcm B G l a b t cs vs xs e s = (R.nox (compD (dcmF B G a b t cs vs) xs [] (wipeE e vs) s)).bind (kStD l) := (rfl)
@[simp] theorem ev_dcm {l : Bool} {t : T} {it : I} {cs : Es} {own : List (Str × Nat)} : ev B G (.dcm l a b t it cs own) e s = (its B G it e s).bind (kDcm B G l a b t cs (own.map (·.2))) := by rw [ev]; rfl
@[simp] theorem wipeE_nil : wipeE e [] = e := (rfl)
@[simp] theorem wipeE_cons {v : Nat} {vs : List Nat} : wipeE e (v :: vs) = (wipeE e vs).set v .un := (rfl)
def kCf2 (vs : List Nat) : DB → En → Sto → R (Option D) := fun d e s => .ok (some d.1) (wipeE e vs) s
@[simp] theorem kCf2_eq {vs : List Nat} {d : DB} : kCf2 vs d e s = .ok (some d.1) (wipeE e vs) s := (rfl)
def kCf1 (B : Tab) (G : Glb) (a : E) (vs : List Nat) : DB → En → Sto → R (Option D) := fun b e s => match b.1 with
  | .bool true => (ev B G a e s).bind (kCf2 vs)
  | .bool false => .ok none (wipeE e vs) s
  | _ => .no
@[simp] theorem kCf1_eq {vs : List Nat} {z w : Bool} : kCf1 B G a vs (.bool z, w) e s = if z then (ev B G a e s).bind (kCf2 vs) else .ok none (wipeE e vs) s := by cases z <;> rfl
def kCf0 (B : Tab) (G : Glb) (a : E) (cs : Es) (vs : List Nat) : Unit → En → Sto → R (Option D) := fun _ e s => (evAnd B G cs e s).bind (kCf1 B G a vs)
@[simp] theorem kCf0_eq {cs : Es} {vs : List Nat} {u : Unit} : kCf0 B G a cs vs u e s = (evAnd B G cs e s).bind (kCf1 B G a vs) := (rfl)
@[simp] theorem cmpF_sim {t : T} {cs : Es} {vs : List Nat} : cmpF B G a t cs vs x e s = (asg B G t (x, false) e s).bind (kCf0 B G a cs vs) := by
  rw [cmpF_eq]; congr 1
def kDf3 (vs : List Nat) (d : DB) : DB → En → Sto → R (Option (D × D)) := fun d' e s => .ok (some (d.1, d'.1)) (wipeE e vs) s
@[simp] theorem kDf3_eq {vs : List Nat} {d d' : DB} : kDf3 vs d d' e s = .ok (some (d.1, d'.1)) (wipeE e vs) s := (rfl)
def kDf2 (B : Tab) (G : Glb) (b : E) (vs : List Nat) : DB → En → Sto → R (Option (D × D)) := fun d e s => (ev B G b e s).bind (kDf3 vs d)
@[simp] theorem kDf2_eq {vs : List Nat} {d : DB} : kDf2 B G b vs d e s = (ev B G b e s).bind (kDf3 vs d) := (rfl)
def kDf1 (B : Tab) (G : Glb) (a b : E) (vs : List Nat) : DB → En → Sto → R (Option (D × D)) := fun z e s => match z.1 with
  | .bool true => (ev B G a e s).bind (kDf2 B G b vs)
  | .bool false => .ok none (wipeE e vs) s
  | _ => .no
@[simp] theorem kDf1_eq {vs : List Nat} {z w : Bool} : kDf1 B G a b vs (.bool z, w) e s = if z then (ev B G a e s).bind (kDf2 B G b vs) else .ok none (wipeE e vs) s := by cases z <;> rfl
def kDf0 (B : Tab) (G : Glb) (a b : E) (cs : Es) (vs : List Nat) : Unit → En → Sto → R (Option (D × D)) := fun _ e s => (evAnd B G cs e s).bind (kDf1 B G a b vs)
@[simp] theorem kDf0_eq {cs : Es} {vs : List Nat} {u : Unit} : kDf0 B G a b cs vs u e s = (evAnd B G cs e s).bind (kDf1 B G a b vs) := (rfl)
@[simp] theorem dcmF_sim {t : T} {cs : Es} {vs : List Nat} : dcmF B G a b t cs vs x e s = (asg B G t (x, false) e s).bind (kDf0 B G a b cs vs) := by
  rw [dcmF_eq]; congr 1
@[simp] theorem compL_nil {f : D → En → Sto → R (Option D)} {acc : List D} : compL f [] acc e s = .ok acc e s := (rfl)
def kCmL (f : D → En → Sto → R (Option D)) (xs acc : List D) : Option D → En → Sto → R (List D) := fun o e s => match o with
    | some d => if acc.length < sizeMax then compL f xs (acc ++ [d]) e s else .no
    | none => compL f xs acc e s
@[simp] theorem kCmL_some {f : D → En → Sto → R (Option D)} {xs acc : List D} : kCmL f xs acc (some x) e s = if acc.length < sizeMax then compL f xs (acc ++ [x]) e s else .no := (rfl)
@[simp] theorem kCmL_none {f : D → En → Sto → R (Option D)} {xs acc : List D} : kCmL f xs acc none e s = compL f xs acc e s := (rfl)
@[simp] theorem compL_cons {f : D → En → Sto → R (Option D)} {xs acc : List D} : compL f (x :: xs) acc e s = (f x e s).bind (kCmL f xs acc) := by
  show (f x e s).bind _ = _
  congr 1
@[simp] theorem compD_nil {f : D → En → Sto → R (Option (D × D))} {acc : List (D × D)} : compD f [] acc e s = .ok acc e s := (rfl)
def kCmD (f : D → En → Sto → R (Option (D × D))) (xs : List D) (acc : List (D × D)) : Option (D × D) → En → Sto → R (List (D × D)) := fun o e s => match o with
    | some d => if d.1.key ∧ acc.length < sizeMax then compD f xs (putKD acc d.1 d.2) e s else .no
    | none => compD f xs acc e s
@[simp] theorem kCmD_some {f : D → En → Sto → R (Option (D × D))} {xs : List D} {acc : List (D × D)} {d : D × D} : kCmD f xs acc (some d) e s = if d.1.key ∧ acc.length < sizeMax then compD f xs (putKD acc d.1 d.2) e s else .no := (rfl)
@[simp] theorem kCmD_none {f : D → En → Sto → R (Option (D × D))} {xs : List D} {acc : List (D × D)} : kCmD f xs acc none e s = compD f xs acc e s := (rfl)
@[simp] theorem compD_cons {f : D → En → Sto → R (Option (D × D))} {xs : List D} {acc : List (D × D)} : compD f (x :: xs) acc e s = (f x e s).bind (kCmD f xs acc) := by
  show (f x e s).bind _ = _
  congr 1
def kGds (G : Glb) (z : Str) : DB → En → Sto → R DB := fun d e s => .of (gdsO (G z) d.1) e s
@[simp] theorem kGds_eq {z : Str} {d : DB} : kGds G z d e s = .of (gdsO (G z) d.1) e s := (rfl)
@[simp] theorem ev_gds {z : Str} : ev B G (.gds z a) e s = if gDic (G z) then (ev B G a e s).bind (kGds G z) else .no := by rw [ev]; rfl
def kGdi (G : Glb) (nn : Bool) (z : Str) : DB → En → Sto → R DB := fun d e s => .of (gdiO nn (G z) d.1) e s
@[simp] theorem kGdi_eq {z : Str} {nn : Bool} {d : DB} : kGdi G nn z d e s = .of (gdiO nn (G z) d.1) e s := (rfl)
@[simp] theorem ev_gdi {z : Str} {nn : Bool} : ev B G (.gdi nn z a) e s = if gDic (G z) then (ev B G a e s).bind (kGdi G nn z) else .no := by rw [ev]; rfl
@[simp] theorem gDic_dic {l : List (D × D)} : gDic (some (.dic l)) = true := (rfl)
@[simp] theorem gdsO_eq {l : List (D × D)} {z : Str} : gdsO (some (.dic l)) (.str z) = (lookS l z).map fun v => (v, false) := (rfl)
@[simp] theorem gdsO_int {l : List (D × D)} {i : Int} : gdsO (some (.dic l)) (.int i) = (lookK l (.int i)).map fun v => (v, false) := (rfl)
@[simp] theorem gdiO_int {nn : Bool} {l : List (D × D)} {i : Int} : gdiO nn (some (.dic l)) (.int i) = some (.bool (if nn then !(lookK l (.int i)).isSome else (lookK l (.int i)).isSome), false) := (rfl)
@[simp] theorem gdgO_eq {l : List (D × D)} {ds : List D} : gdgO (some (.dic l)) ds = mthD .get (.dic l) ds := (rfl)
def kGdg (G : Glb) (z : Str) : List Ar → En → Sto → R DB := fun as e s => match rd e as with
    | some ds => .of (gdgO (G z) ds) (fz e as) s
    | none => .no
@[simp] theorem kGdg_eq {z : Str} {as : List Ar} : kGdg G z as e s = match rd e as with
    | some ds => .of (gdgO (G z) ds) (fz e as) s
    | none => .no := (rfl)
@[simp] theorem ev_gdg {z : Str} {es : Es} : ev B G (.gdg z es) e s = if gDic (G z) then (ag B G es e s).bind (kGdg G z) else .no := by rw [ev]; rfl
@[simp] theorem gdiO_eq {nn : Bool} {l : List (D × D)} {z : Str} : gdiO nn (some (.dic l)) (.str z) = some (.bool (if nn then !(lookS l z).isSome else (lookS l z).isSome), false) := (rfl)
def kBin (op : Operator) : List Ar → En → Sto → R DB := fun as e s => opR e s as fun ds => .of (binO op ds) e s
@[simp] theorem kBin_eq {op : Operator} {as : List Ar} : kBin op as e s = match (rd e as).bind (ders s) with
  | some ds => .of (binO op ds) e s
  | none => .no := (rfl)
@[simp] theorem ev_bin {op : Operator} : ev B G (.bin op es) e s = (ag B G es e s).bind (kBin op) := by rw [ev]; rfl
def kNeg : DB → En → Sto → R DB := fun d e s => match d.1 with
    | .int i => .ok (.int (-i), false) e s
    | _ => .no
@[simp] theorem kNeg_eq {w : Bool} {j : Int} : kNeg (.int j, w) e s = .ok (.int (-j), false) e s := (rfl)
@[simp] theorem ev_neg : ev B G (.neg a) e s = (ev B G a e s).bind kNeg := by rw [ev]; rfl
def kNot : DB → En → Sto → R DB := fun d e s => iff d (.ok (.bool false, false) e s) (.ok (.bool true, false) e s)
@[simp] theorem kNot_eq {w z : Bool} : kNot (.bool z, w) e s = .ok (.bool (!z), false) e s := by cases z <;> rfl
@[simp] theorem ev_not : ev B G (.not a) e s = (ev B G a e s).bind kNot := by rw [ev]; rfl
@[simp] theorem ev_and : ev B G (.and es) e s = evAnd B G es e s := by rw [ev]
@[simp] theorem ev_or : ev B G (.or es) e s = evOr B G es e s := by rw [ev]
def kIte (B : Tab) (G : Glb) (a b : E) : DB → En → Sto → R DB := fun d e s => iff d (ev B G a e s) (ev B G b e s)
@[simp] theorem kIte_eq {w z : Bool} : kIte B G a b (.bool z, w) e s = if z then ev B G a e s else ev B G b e s := by cases z <;> rfl
@[simp] theorem ev_ite : ev B G (.ite c a b) e s = (ev B G c e s).bind (kIte B G a b) := by rw [ev]; rfl
def kCmp (op : CmpOp) : List Ar → En → Sto → R DB := fun as e s => boolR ((rd e as).bind (cmpO op s)) e s
@[simp] theorem kCmp_eq {op : CmpOp} {as : List Ar} : kCmp op as e s = boolR ((rd e as).bind (cmpO op s)) e s := (rfl)
@[simp] theorem ev_cmp {op : CmpOp} : ev B G (.cmp op es) e s = (ag B G es e s).bind (kCmp op) := by rw [ev]; rfl
def kChe (o2 : CmpOp) (j : Int) : DB → En → Sto → R DB := fun z e s => boolR (cmpD o2 (.int j) z.1) e s
@[simp] theorem kChe_eq {o2 : CmpOp} {j : Int} {z : DB} : kChe o2 j z e s = boolR (cmpD o2 (.int j) z.1) e s := (rfl)
def kChm (B : Tab) (G : Glb) (o2 : CmpOp) (c : E) (j : Int) : Option Bool → En → Sto → R DB := fun o e s => match o with
  | some true => (ev B G c e s).bind (kChe o2 j)
  | some false => .ok (.bool false, false) e s
  | none => .no
@[simp] theorem kChm_eq {o2 : CmpOp} {j : Int} {z : Bool} : kChm B G o2 c j (some z) e s = if z then (ev B G c e s).bind (kChe o2 j) else .ok (.bool false, false) e s := by cases z <;> rfl
def kChn (B : Tab) (G : Glb) (o1 o2 : CmpOp) (c : E) : List Ar → En → Sto → R DB := fun as e s => match rd e as with
    | some [x, .int j] => kChm B G o2 c j (cmpD o1 x (.int j)) e s
    | _ => .no
@[simp] theorem kChn_eq {o1 o2 : CmpOp} {as : List Ar} : kChn B G o1 o2 c as e s = match rd e as with
    | some [x, .int j] => kChm B G o2 c j (cmpD o1 x (.int j)) e s
    | _ => .no := (rfl)
@[simp] theorem ev_chn {o1 o2 : CmpOp} : ev B G (.chn o1 o2 es c) e s = (ag B G es e s).bind (kChn B G o1 o2 c) := by
  rw [ev]; congr 1
def kTup : List Ar → En → Sto → R DB := fun as e s => match rd e as with
    | some ds => if ds.length ≤ sizeMax then .ok (.tup ds, false) (fz e as) s else .no
    | none => .no
@[simp] theorem kTup_eq {as : List Ar} : kTup as e s = match rd e as with
    | some ds => if ds.length ≤ sizeMax then .ok (.tup ds, false) (fz e as) s else .no
    | none => .no := (rfl)
@[simp] theorem ev_tup : ev B G (.tup es) e s = (ag B G es e s).bind kTup := by rw [ev]; rfl
def kLst (l : Bool) : List Ar → En → Sto → R DB := fun as e s => match rd e as with
    | some ds => if ds.length ≤ sizeMax then stow l (.lst ds) (fz e as) s else .no
    | none => .no
@[simp] theorem kLst_eq {l : Bool} {as : List Ar} : kLst l as e s = match rd e as with
    | some ds => if ds.length ≤ sizeMax then stow l (.lst ds) (fz e as) s else .no
    | none => .no := (rfl)
@[simp] theorem ev_lst {l : Bool} : ev B G (.lst l es) e s = (ag B G es e s).bind (kLst l) := by rw [ev]; rfl
def kCall (B : Tab) (p : Bool) (f : Str) : List Ar → En → Sto → R DB := fun as e s => match rd e as with
    | some ds => if p then (if nolL ds then callP (B f ds []) e as s else .no) else callS (B f ds s) e as
    | none => .no
@[simp] theorem kCall_eq {p : Bool} {f : Str} {as : List Ar} : kCall B p f as e s = match rd e as with
    | some ds => if p then (if nolL ds then callP (B f ds []) e as s else .no) else callS (B f ds s) e as
    | none => .no := (rfl)
@[simp] theorem ev_call {f : Str} {p : Bool} : ev B G (.call p f es) e s = (ag B G es e s).bind (kCall B p f) := by rw [ev]; rfl
def kBlt (f : Bf) : List Ar → En → Sto → R DB := fun as e s => opR e s as fun ds => .of (bltD f ds) e s
@[simp] theorem kBlt_eq {f : Bf} {as : List Ar} : kBlt f as e s = match (rd e as).bind (ders s) with
  | some ds => .of (bltD f ds) e s
  | none => .no := (rfl)
@[simp] theorem ev_blt {f : Bf} : ev B G (.blt f es) e s = (ag B G es e s).bind (kBlt f) := by rw [ev]; rfl
def kChv (m : Cf) (kd : Kd) (i : Nat) : List Ar → En → Sto → R DB := fun as e s => match rd e as with
    | some ds => (match argC m s ds with
      | some ds => chgS (fun x => chgX kd m x ds) i (fz e as) s
      | none => .no)
    | none => .no
@[simp] theorem kChv_eq {m : Cf} {kd : Kd} {as : List Ar} : kChv m kd i as e s = match rd e as with
    | some ds => (match argC m s ds with
      | some ds => chgS (fun x => chgX kd m x ds) i (fz e as) s
      | none => .no)
    | none => .no := (rfl)
@[simp] theorem ev_chv {m : Cf} : ev B G (.chv m i es) e s = match knS e s i with
    | some kd => if chgK m kd then (ag B G es e s).bind (kChv m kd i) else .no
    | none => .no := by
  rw [ev]; rfl
def kCh2 (m : Cf) (kd : Kd) (d : D) : List Ar → En → Sto → R DB := fun as e s => match rd e as with
    | some ds => (match argC m s ds with
      | some ds => chgO (fun x => chgX kd m x ds) d (fz e as) s
      | none => .no)
    | none => .no
@[simp] theorem kCh2_eq {m : Cf} {kd : Kd} {d : D} {as : List Ar} : kCh2 m kd d as e s = match rd e as with
    | some ds => (match argC m s ds with
      | some ds => chgO (fun x => chgX kd m x ds) d (fz e as) s
      | none => .no)
    | none => .no := (rfl)
def kCho (B : Tab) (G : Glb) (m : Cf) (es : Es) : DB → En → Sto → R DB := fun d e s => match knD s d.1 with
    | some kd => if chgK m kd then (ag B G es e s).bind (kCh2 m kd d.1) else .no
    | none => .no
@[simp] theorem kCho_eq {m : Cf} {d : DB} : kCho B G m es d e s = match knD s d.1 with
    | some kd => if chgK m kd then (ag B G es e s).bind (kCh2 m kd d.1) else .no
    | none => .no := (rfl)
@[simp] theorem ev_cho {m : Cf} : ev B G (.cho m a es) e s = (ev B G a e s).bind (kCho B G m es) := by rw [ev]; rfl
def kMt2 (m : Mf) (x : Ar) : List Ar → En → Sto → R DB := fun as e s => match rd e as, (rd1 e x).bind (der s) with
      | some ds, some d => (match argM m s ds with
        | some ds => .of (mthD m d ds) (fz e as) s
        | none => .no)
      | _, _ => .no
@[simp] theorem kMt2_eq {m : Mf} {x : Ar} {as : List Ar} : kMt2 m x as e s = match rd e as, (rd1 e x).bind (der s) with
      | some ds, some d => (match argM m s ds with
        | some ds => .of (mthD m d ds) (fz e as) s
        | none => .no)
      | _, _ => .no := (rfl)
def kMth (B : Tab) (G : Glb) (m : Mf) (es : Es) : List Ar → En → Sto → R DB := fun a e s => match a with
    | [x] => if mtK m (knA e s x) then (ag B G es e s).bind (kMt2 m x) else .no
    | _ => .no
@[simp] theorem kMth_eq {m : Mf} {x : Ar} : kMth B G m es [x] e s = if mtK m (knA e s x) then (ag B G es e s).bind (kMt2 m x) else .no := (rfl)
@[simp] theorem ev_mth {m : Mf} {os : Es} : ev B G (.mth m os es) e s = (ag B G os e s).bind (kMth B G m es) := by
  rw [ev]; congr 1
@[simp] theorem argC_app {ds : List D} : argC .append s ds = some ds := (rfl)
@[simp] theorem argC_pop {ds : List D} : argC .pop s ds = some ds := (rfl)
@[simp] theorem argC_ins {ds : List D} : argC .insert s ds = some ds := (rfl)
@[simp] theorem argC_rev {ds : List D} : argC .reverse s ds = some ds := (rfl)
@[simp] theorem argC_ext {ds : List D} : argC .extend s ds = ders s ds := (rfl)
@[simp] theorem argM_get {ds : List D} : argM .get s ds = some ds := (rfl)
@[simp] theorem argM_index {ds : List D} : argM .index s ds = ders s ds := (rfl)
@[simp] theorem argM_count {ds : List D} : argM .count s ds = ders s ds := (rfl)
@[simp] theorem argM_join {ds : List D} : argM .join s ds = ders s ds := (rfl)
@[simp] theorem kindD_lst {l : List D} : kindD (.lst l) = some .lst := (rfl)
@[simp] theorem kindD_tup {l : List D} : kindD (.tup l) = some .tup := (rfl)
@[simp] theorem kindD_str {l : Str} : kindD (.str l) = some .str := (rfl)
@[simp] theorem kindD_dic {l : List (D × D)} : kindD (.dic l) = some .dic := (rfl)
@[simp] theorem kindD_obj {c : Str} {l : List (Str × D)} : kindD (.obj c l) = some .obj := (rfl)
@[simp] theorem knD_loc : knD s (.loc n) = (s[n]?).bind kindD := (rfl)
@[simp] theorem knD_lst {l : List D} : knD s (.lst l) = some .lst := (rfl)
@[simp] theorem knD_dic {l : List (D × D)} : knD s (.dic l) = some .dic := (rfl)
@[simp] theorem knD_str {l : Str} : knD s (.str l) = some .str := (rfl)
@[simp] theorem knS_eq : knS e s i = ((e[i]?).bind rdS).bind (knD s) := (rfl)
@[simp] theorem knA_eq {x : Ar} : knA e s x = (rd1 e x).bind (knD s) := (rfl)
@[simp] theorem chgK_lst {m : Cf} : chgK m .lst = true := by cases m <;> rfl
@[simp] theorem chgK_dic : chgK .pop .dic = true := (rfl)
@[simp] theorem chgX_eq {kd : Kd} {m : Cf} {ds : List D} : chgX kd m x ds = if kindD x = some kd then chgD m x ds else none := (rfl)
@[simp] theorem mtK_get : mtK .get (some .dic) = true := (rfl)
@[simp] theorem mtK_index : mtK .index (some .lst) = true := (rfl)
@[simp] theorem mtK_count : mtK .count (some .lst) = true := (rfl)
@[simp] theorem mtK_join : mtK .join (some .str) = true := (rfl)
@[simp] theorem mtK_upper : mtK .upper (some .str) = true := (rfl)
@[simp] theorem mtK_partition : mtK .partition (some .str) = true := (rfl)
@[simp] theorem mtK_split : mtK .split (some .str) = true := (rfl)
@[simp] theorem mtK_startswith : mtK .startswith (some .str) = true := (rfl)
@[simp] theorem mtK_endswith : mtK .endswith (some .str) = true := (rfl)
@[simp] theorem mtK_removeprefix : mtK .removeprefix (some .str) = true := (rfl)
@[simp] theorem mtK_removesuffix : mtK .removesuffix (some .str) = true := (rfl)
@[simp] theorem mtK_isdigit : mtK .isdigit (some .str) = true := (rfl)
@[simp] theorem mtK_find : mtK .find (some .str) = true := (rfl)
@[simp] theorem mth_upper {a : Str} : mthD .upper (.str a) [] = if a.length ≤ 5592405 then some (.str (PySem.Txt.upper a), false) else none := (rfl)
@[simp] theorem mth_partition {a b : Str} : mthD .partition (.str a) [.str b] = if (b.length == 0) = false ∧ a.length ≤ sizeMax then some (.tup [.str (PySem.Txt.partition a b).1, .str (PySem.Txt.partition a b).2.1, .str (PySem.Txt.partition a b).2.2], false) else none := (rfl)
@[simp] theorem mth_split {a b : Str} : mthD .split (.str a) [.str b] = if (b.length == 0) = false ∧ a.length + 2 ≤ sizeMax then some (.lst ((PySem.Txt.split a b).map D.str), true) else none := (rfl)
@[simp] theorem mth_startswith {a b : Str} : mthD .startswith (.str a) [.str b] = some (.bool (PySem.Txt.startswith a b), false) := (rfl)
@[simp] theorem mth_endswith {a b : Str} : mthD .endswith (.str a) [.str b] = some (.bool (PySem.Txt.endswith a b), false) := (rfl)
@[simp] theorem mth_removeprefix {a b : Str} : mthD .removeprefix (.str a) [.str b] = if a.length ≤ sizeMax then some (.str (PySem.Txt.removeprefix a b), false) else none := (rfl)
@[simp] theorem mth_removesuffix {a b : Str} : mthD .removesuffix (.str a) [.str b] = if a.length ≤ sizeMax then some (.str (PySem.Txt.removesuffix a b), false) else none := (rfl)
@[simp] theorem mth_isdigit {a : Str} : mthD .isdigit (.str a) [] = some (.bool (PySem.Txt.isdigit a), false) := (rfl)
@[simp] theorem mth_find {a b : Str} : mthD .find (.str a) [.str b] = some (.int (PySem.Txt.find a b), false) := (rfl)
@[simp] theorem argM_upper {ds : List D} : argM .upper s ds = ders s ds := (rfl)
@[simp] theorem argM_partition {ds : List D} : argM .partition s ds = ders s ds := (rfl)
@[simp] theorem argM_split {ds : List D} : argM .split s ds = ders s ds := (rfl)
@[simp] theorem argM_startswith {ds : List D} : argM .startswith s ds = ders s ds := (rfl)
@[simp] theorem argM_endswith {ds : List D} : argM .endswith s ds = ders s ds := (rfl)
@[simp] theorem argM_removeprefix {ds : List D} : argM .removeprefix s ds = ders s ds := (rfl)
@[simp] theorem argM_removesuffix {ds : List D} : argM .removesuffix s ds = ders s ds := (rfl)
@[simp] theorem argM_isdigit {ds : List D} : argM .isdigit s ds = ders s ds := (rfl)
@[simp] theorem argM_find {ds : List D} : argM .find s ds = ders s ds := (rfl)
@[simp] theorem mth_get1 {l : List (D × D)} {k : D} : mthD .get (.dic l) [k] = if k.key then some ((lookK l k).getD .none, false) else none := (rfl)
@[simp] theorem mth_get2 {l : List (D × D)} {k v : D} : mthD .get (.dic l) [k, v] = if k.key then some ((lookK l k).getD v, false) else none := (rfl)
def kMxd (d : Int) : List Ar → En → Sto → R DB := fun as e s => opR e s as fun ds => .of (mxdO d ds) e s
@[simp] theorem kMxd_eq {d : Int} {as : List Ar} : kMxd d as e s = match (rd e as).bind (ders s) with
  | some ds => .of (mxdO d ds) e s
  | none => .no := (rfl)
@[simp] theorem ev_mxd {d : Int} : ev B G (.mxd d es) e s = (ag B G es e s).bind (kMxd d) := by rw [ev]; rfl
def kIsc (c : Str) : List Ar → En → Sto → R DB := fun as e s => opR e s as fun ds => .of (iscO c ds) e s
@[simp] theorem kIsc_eq {c : Str} {as : List Ar} : kIsc c as e s = match (rd e as).bind (ders s) with
  | some ds => .of (iscO c ds) e s
  | none => .no := (rfl)
@[simp] theorem ev_isc {c : Str} : ev B G (.isc c es) e s = (ag B G es e s).bind (kIsc c) := by rw [ev]; rfl
@[simp] theorem iscO_eq {c : Str} {gs : List (Str × D)} : iscO c [.obj c gs] = some (.bool true, false) := by simp [iscO]
def kAtr (cs : List Str) (f : Str) : List Ar → En → Sto → R DB := fun as e s => opR e s as fun ds => .of (atrO cs f ds) e s
@[simp] theorem kAtr_eq {cs : List Str} {f : Str} {as : List Ar} : kAtr cs f as e s = match (rd e as).bind (ders s) with
  | some ds => .of (atrO cs f ds) e s
  | none => .no := (rfl)
@[simp] theorem ev_atr {cs : List Str} {f : Str} : ev B G (.atr cs f es) e s = (ag B G es e s).bind (kAtr cs f) := by rw [ev]; rfl
@[simp] theorem atrO_eq {cs : List Str} {f c : Str} {gs : List (Str × D)} : atrO cs f [.obj c gs] = if cs.contains c then (lookF gs f).map fun d => (d, false) else none := (rfl)
@[simp] theorem lookF_nil {f : Str} : lookF [] f = none := (rfl)
@[simp] theorem lookF_cons {g f : Str} {v : D} {r : List (Str × D)} : lookF ((g, v) :: r) f = if g = f then some v else lookF r f := (rfl)
@[simp] theorem putFD_nil {f : Str} {v : D} : putFD f v [] = [(f, v)] := (rfl)
@[simp] theorem putFD_cons {g f : Str} {v w : D} {r : List (Str × D)} : putFD f v ((g, w) :: r) = if g = f then (g, v) :: r else (g, w) :: putFD f v r := (rfl)
@[simp] theorem setFd_eq {cs : List Str} {f c : Str} {gs : List (Str × D)} {v : D} : setFd cs f (.obj c gs) v = if cs.contains c ∧ gs.length < 1000 then some (.obj c (putFD f v gs)) else none := (rfl)
def kNew (B : Tab) (p : Bool) (c key : Str) : List Ar → En → Sto → R DB := fun as e s => match rd e as with
    | some ds => if p then (if nolL ds then newP c (B key (.loc 0 :: ds) [.obj c []]) e as s else .no) else newS s.length (B key (.loc s.length :: ds) (s ++ [.obj c []])) e as
    | none => .no
@[simp] theorem kNew_eq {p : Bool} {c key : Str} {as : List Ar} : kNew B p c key as e s = match rd e as with
    | some ds => if p then (if nolL ds then newP c (B key (.loc 0 :: ds) [.obj c []]) e as s else .no) else newS s.length (B key (.loc s.length :: ds) (s ++ [.obj c []])) e as
    | none => .no := (rfl)
@[simp] theorem ev_new {p : Bool} {c key : Str} : ev B G (.new p c key es) e s = (ag B G es e s).bind (kNew B p c key) := by rw [ev]; rfl
@[simp] theorem newP_eq {c : Str} {fs : List (Str × D)} {w : Bool} {s' : Sto} {as : List Ar} : newP c (some (.rt .none w, .obj c fs :: s')) e as s = if immF fs then .ok (.obj c fs, true) e s else if nolF fs then .ok (.obj c fs, true) (fz e as) s else .no := by
  show (if c = c then _ else _) = _
  rw [if_pos rfl]
@[simp] theorem newP_rx {c : Str} {x : Xc} {s' : Sto} {as : List Ar} : newP c (some (.rx x, s')) e as s = if x.fs.all (fun p => atomB p.2) then .ex x e s else .no := (rfl)
@[simp] theorem newS_rt {w : Bool} {s' : Sto} {as : List Ar} : newS n (some (.rt .none w, s')) e as = .ok (.loc n, false) (fz e as) s' := (rfl)
@[simp] theorem newS_rx {x : Xc} {s' : Sto} {as : List Ar} : newS n (some (.rx x, s')) e as = .ex x (fz e as) s' := (rfl)
def kMet2 (B : Tab) (p : Bool) (key : Str) (x : Ar) : List Ar → En → Sto → R DB := fun as e s => match rd e (x :: as) with
        | some ds => if p then (if nolL ds then callP (B key ds []) e (x :: as) s else .no) else callS (B key ds s) e (x :: as)
        | none => .no
@[simp] theorem kMet2_eq {p : Bool} {key : Str} {x : Ar} {as : List Ar} : kMet2 B p key x as e s = match rd e (x :: as) with
        | some ds => if p then (if nolL ds then callP (B key ds []) e (x :: as) s else .no) else callS (B key ds s) e (x :: as)
        | none => .no := (rfl)
def kMet (B : Tab) (G : Glb) (p : Bool) (cs : List (Str × Str)) (m : Str) (es : Es) : List Ar → En → Sto → R DB := fun a e s => match a with
    | [x] => (match metK cs m ((rd1 e x).bind (der s)) with
      | some key => (ag B G es e s).bind (kMet2 B p key x)
      | none => .no)
    | _ => .no
@[simp] theorem kMet_eq {p : Bool} {cs : List (Str × Str)} {m : Str} {x : Ar} : kMet B G p cs m es [x] e s = match metK cs m ((rd1 e x).bind (der s)) with
      | some key => (ag B G es e s).bind (kMet2 B p key x)
      | none => .no := (rfl)
@[simp] theorem ev_met {p : Bool} {cs : List (Str × Str)} {m : Str} {os : Es} : ev B G (.met p cs m os es) e s = (ag B G os e s).bind (kMet B G p cs m es) := by
  rw [ev]; congr 1
@[simp] theorem metK_eq {cs : List (Str × Str)} {m c : Str} {gs : List (Str × D)} : metK cs m (some (.obj c gs)) = if (lookF gs m).isSome then none else cs.lookup c := (rfl)
def kPrp (B : Tab) (cs : List (Str × Str)) (m : Str) : List Ar → En → Sto → R DB := fun as e s => match rd e as with
    | some [x] => match metK cs m (some x) with
      | some key => if nolL [x] then R.nox (callP (B key [x] []) e as s) else .no
      | none => .no
    | _ => .no
@[simp] theorem kPrp_eq {cs : List (Str × Str)} {m : Str} {as : List Ar} : kPrp B cs m as e s = match rd e as with
    | some [x] => match metK cs m (some x) with
      | some key => if nolL [x] then R.nox (callP (B key [x] []) e as s) else .no
      | none => .no
    | _ => .no := (rfl)
@[simp] theorem ev_prp {cs : List (Str × Str)} {m : Str} : ev B G (.prp cs m es) e s = (ag B G es e s).bind (kPrp B cs m) := by rw [ev]; rfl
def kOpm (B : Tab) (cs : List (Str × Str)) : List Ar → En → Sto → R DB := fun as e s => match rd e as with
    | some [x, y] => match metK cs "__add__" (some x) with
      | some key => if sameC x y then (if nolL [x, y] then callP (B key [x, y] []) e as s else .no) else .no
      | none => .no
    | _ => .no
@[simp] theorem kOpm_eq {cs : List (Str × Str)} {as : List Ar} : kOpm B cs as e s = match rd e as with
    | some [x, y] => match metK cs "__add__" (some x) with
      | some key => if sameC x y then (if nolL [x, y] then callP (B key [x, y] []) e as s else .no) else .no
      | none => .no
    | _ => .no := (rfl)
@[simp] theorem ev_opm {cs : List (Str × Str)} : ev B G (.opm cs es) e s = (ag B G es e s).bind (kOpm B cs) := by rw [ev]; rfl
@[simp] theorem sameC_ev {c c' : Str} {gs gs' : List (Str × D)} : sameC (.obj c gs) (.obj c' gs') = decide (c = c') := (rfl)
def kLri : List D → En → Sto → R DB := fun xs e s => if xs.length ≤ sizeMax then .ok (.lst xs, true) e s else .no
@[simp] theorem kLri_eq {xs : List D} : kLri xs e s = if xs.length ≤ sizeMax then .ok (.lst xs, true) e s else .no := (rfl)
@[simp] theorem ev_mov {i : Nat} : ev B G (.mov i) e s = match e[i]? with
    | some (.fr d) => .ok (d, false) e s
    | some (.ow d) => .ok (d, true) (e.set i .un) s
    | _ => .no := by rw [ev]; try rfl
def kVls (m : Nat) : List Ar → En → Sto → R DB := fun as e s => opR e s as fun ds => .of (vlsO m ds) e s
@[simp] theorem kVls_eq {m : Nat} {as : List Ar} : kVls m as e s = match (rd e as).bind (ders s) with
  | some ds => .of (vlsO m ds) e s
  | none => .no := (rfl)
@[simp] theorem ev_vls {m : Nat} : ev B G (.vls m es) e s = (ag B G es e s).bind (kVls m) := by rw [ev]; rfl
@[simp] theorem vlsO_eq {kvs : List (D × D)} : vlsO 0 [.dic kvs] = some (.lst (kvs.map (·.2)), true) := (rfl)
@[simp] theorem vlsO_eq1 {xs : List D} : vlsO 1 [.tup xs] = (intsD xs).bind fun is => if is.length ≤ 4000 then some (.int ((dst is).length : Nat), false) else none := (rfl)
def xisR (ys ns : List Str) : Option Sl → En → Sto → R DB := fun o e s => match o with
    | some (.xc x) => if ys.contains x.c then .ok (.bool true, false) e s else if ns.contains x.c then .ok (.bool false, false) e s else .no
    | _ => .no
@[simp] theorem xisR_eq {ys ns : List Str} {x : Xc} : xisR ys ns (some (.xc x)) e s = if ys.contains x.c then .ok (.bool true, false) e s else if ns.contains x.c then .ok (.bool false, false) e s else .no := (rfl)
@[simp] theorem ev_xis {i : Nat} {tp : Bool} {cs ys ns : List Str} : ev B G (.xis i tp cs ys ns) e s = xisR ys ns e[i]? e s := by rw [ev]; try rfl
def xflR (cs : List Str) (f : Str) : Option Sl → En → Sto → R DB := fun o e s => match o with
    | some (.xc x) => if cs.contains x.c then (match lookF x.fs f with
      | some d => .ok (d, false) e s
      | none => .no) else .no
    | _ => .no
@[simp] theorem xflR_eq {cs : List Str} {f : Str} {x : Xc} : xflR cs f (some (.xc x)) e s = if cs.contains x.c then (match lookF x.fs f with
      | some d => .ok (d, false) e s
      | none => .no) else .no := (rfl)
@[simp] theorem ev_xfl {i : Nat} {cs : List Str} {f : Str} : ev B G (.xfl i cs f) e s = xflR cs f e[i]? e s := by rw [ev]; try rfl
@[simp] theorem ev_lri {it : I} : ev B G (.lri it) e s = (its B G it e s).bind kLri := by rw [ev]; rfl
def kSub : List Ar → En → Sto → R DB := fun as e s => opR e s as fun ds => .of (subO ds) e s
@[simp] theorem kSub_eq {as : List Ar} : kSub as e s = match (rd e as).bind (ders s) with
  | some ds => .of (subO ds) e s
  | none => .no := (rfl)
@[simp] theorem ev_sub : ev B G (.sub es) e s = (ag B G es e s).bind kSub := by rw [ev]; rfl
def kSlc (k : Nat) : List Ar → En → Sto → R DB := fun as e s => opR e s as fun ds => .of (slcO k ds) e s
@[simp] theorem kSlc_eq {k : Nat} {as : List Ar} : kSlc k as e s = match (rd e as).bind (ders s) with
  | some ds => .of (slcO k ds) e s
  | none => .no := (rfl)
@[simp] theorem ev_slc {k : Nat} : ev B G (.slc k es) e s = (ag B G es e s).bind (kSlc k) := by rw [ev]; rfl
def kSl2 (as : List Ar) : DB → En → Sto → R DB := fun d e s => opR e s as fun ds => .of (slcO 3 (ds ++ [d.1])) e s
@[simp] theorem kSl2_eq {as : List Ar} {d : DB} : kSl2 as d e s = match (rd e as).bind (ders s) with
  | some ds => .of (slcO 3 (ds ++ [d.1])) e s
  | none => .no := (rfl)
def kSlb (B : Tab) (G : Glb) (c : E) : List Ar → En → Sto → R DB := fun as e s => match rd e as with
    | some [_, .int _] => (ev B G c e s).bind (kSl2 as)
    | _ => .no
@[simp] theorem kSlb_eq {as : List Ar} : kSlb B G c as e s = match rd e as with
    | some [_, .int _] => (ev B G c e s).bind (kSl2 as)
    | _ => .no := (rfl)
@[simp] theorem ev_slb : ev B G (.slb es c) e s = (ag B G es e s).bind (kSlb B G c) := by rw [ev]; rfl
@[simp] theorem evAnd_nil : evAnd B G .nil e s = .ok (.bool true, false) e s := by rw [evAnd]
@[simp] theorem evAnd_one : evAnd B G (.cons a .nil) e s = ev B G a e s := by rw [evAnd]
def kAnd (B : Tab) (G : Glb) (r : Es) : DB → En → Sto → R DB := fun d e s => iff d (evAnd B G r e s) (.ok (.bool false, false) e s)
@[simp] theorem kAnd_eq {w z : Bool} : kAnd B G r (.bool z, w) e s = if z then evAnd B G r e s else .ok (.bool false, false) e s := by cases z <;> rfl
@[simp] theorem evAnd_cons : evAnd B G (.cons a (.cons b r)) e s = (ev B G a e s).bind (kAnd B G (.cons b r)) := by rw [evAnd]; rfl
@[simp] theorem evOr_one : evOr B G (.cons a .nil) e s = ev B G a e s := by rw [evOr]
def kOr (B : Tab) (G : Glb) (r : Es) : DB → En → Sto → R DB := fun d e s => iff d (.ok (.bool true, false) e s) (evOr B G r e s)
@[simp] theorem kOr_eq {w z : Bool} : kOr B G r (.bool z, w) e s = if z then .ok (.bool true, false) e s else evOr B G r e s := by cases z <;> rfl
@[simp] theorem evOr_cons : evOr B G (.cons a (.cons b r)) e s = (ev B G a e s).bind (kOr B G (.cons b r)) := by rw [evOr]; rfl
@[simp] theorem ag_nil : ag B G .nil e s = .ok [] e s := by rw [ag]
def kAs (i : Nat) : List Ar → En → Sto → R (List Ar) := fun as e s => .ok (.s i :: as) e s
@[simp] theorem kAs_eq {as : List Ar} : kAs i as e s = .ok (.s i :: as) e s := (rfl)
def kAv (d : D) : List Ar → En → Sto → R (List Ar) := fun as e s => .ok (.v d :: as) e s
@[simp] theorem kAv_eq {d : D} {as : List Ar} : kAv d as e s = .ok (.v d :: as) e s := (rfl)
def kAg (B : Tab) (G : Glb) (r : Es) : DB → En → Sto → R (List Ar) := fun d e s => (ag B G r e s).bind (kAv d.1)
@[simp] theorem kAg_eq {d : DB} : kAg B G r d e s = (ag B G r e s).bind (kAv d.1) := (rfl)
@[simp] theorem ag_var : ag B G (.cons (.var i) r) e s = if isDef e i then (ag B G r e s).bind (kAs i) else .no := by rw [ag]; rfl
theorem agC (h : ∀ i, a ≠ .var i) : ag B G (.cons a r) e s = (ev B G a e s).bind (kAg B G r) := by
  rw [ag]
  · rfl
  · exact h
@[simp] theorem ag_int {j : Int} : ag B G (.cons (.int j) r) e s = (ag B G r e s).bind (kAv (.int j)) := by rw [agC (by simp), ev_int]; rfl
@[simp] theorem ag_str {j : Str} : ag B G (.cons (.str j) r) e s = (ag B G r e s).bind (kAv (.str j)) := by rw [agC (by simp), ev_str]; rfl
@[simp] theorem ag_bl {j : Bool} : ag B G (.cons (.bl j) r) e s = (ag B G r e s).bind (kAv (.bool j)) := by rw [agC (by simp), ev_bl]; rfl
@[simp] theorem ag_non : ag B G (.cons .non r) e s = (ag B G r e s).bind (kAv .none) := by rw [agC (by simp), ev_non]; rfl
@[simp] theorem ag_gl {z : Str} : ag B G (.cons (.gl z) r) e s = (ev B G (.gl z) e s).bind (kAg B G r) := agC (by simp)
@[simp] theorem ag_bin {op : Operator} : ag B G (.cons (.bin op es) r) e s = (ev B G (.bin op es) e s).bind (kAg B G r) := agC (by simp)
@[simp] theorem ag_neg : ag B G (.cons (.neg a) r) e s = (ev B G (.neg a) e s).bind (kAg B G r) := agC (by simp)
@[simp] theorem ag_not : ag B G (.cons (.not a) r) e s = (ev B G (.not a) e s).bind (kAg B G r) := agC (by simp)
@[simp] theorem ag_and : ag B G (.cons (.and es) r) e s = (ev B G (.and es) e s).bind (kAg B G r) := agC (by simp)
@[simp] theorem ag_or : ag B G (.cons (.or es) r) e s = (ev B G (.or es) e s).bind (kAg B G r) := agC (by simp)
@[simp] theorem ag_ite : ag B G (.cons (.ite c a b) r) e s = (ev B G (.ite c a b) e s).bind (kAg B G r) := agC (by simp)
@[simp] theorem ag_cmp {op : CmpOp} : ag B G (.cons (.cmp op es) r) e s = (ev B G (.cmp op es) e s).bind (kAg B G r) := agC (by simp)
@[simp] theorem ag_chn {o p : CmpOp} : ag B G (.cons (.chn o p es a) r) e s = (ev B G (.chn o p es a) e s).bind (kAg B G r) := agC (by simp)
@[simp] theorem ag_tup : ag B G (.cons (.tup es) r) e s = (ev B G (.tup es) e s).bind (kAg B G r) := agC (by simp)
@[simp] theorem ag_lst {l : Bool} : ag B G (.cons (.lst l es) r) e s = (ev B G (.lst l es) e s).bind (kAg B G r) := agC (by simp)
@[simp] theorem ag_call {p : Bool} {f : Str} : ag B G (.cons (.call p f es) r) e s = (ev B G (.call p f es) e s).bind (kAg B G r) := agC (by simp)
@[simp] theorem ag_atr {cs : List Str} {f : Str} : ag B G (.cons (.atr cs f es) r) e s = (ev B G (.atr cs f es) e s).bind (kAg B G r) := agC (by simp)
@[simp] theorem ag_new {p : Bool} {c key : Str} : ag B G (.cons (.new p c key es) r) e s = (ev B G (.new p c key es) e s).bind (kAg B G r) := agC (by simp)
@[simp] theorem ag_met {p : Bool} {cs : List (Str × Str)} {m : Str} {os : Es} : ag B G (.cons (.met p cs m os es) r) e s = (ev B G (.met p cs m os es) e s).bind (kAg B G r) := agC (by simp)
@[simp] theorem ag_mov {i : Nat} : ag B G (.cons (.mov i) r) e s = (ev B G (.mov i) e s).bind (kAg B G r) := agC (by simp)
@[simp] theorem ag_vls {m : Nat} {os : Es} : ag B G (.cons (.vls m os) r) e s = (ev B G (.vls m os) e s).bind (kAg B G r) := agC (by simp)
@[simp] theorem ag_xis {i : Nat} {tp : Bool} {cs ys ns : List Str} : ag B G (.cons (.xis i tp cs ys ns) r) e s = (ev B G (.xis i tp cs ys ns) e s).bind (kAg B G r) := agC (by simp)
@[simp] theorem ag_xfl {i : Nat} {cs : List Str} {f : Str} : ag B G (.cons (.xfl i cs f) r) e s = (ev B G (.xfl i cs f) e s).bind (kAg B G r) := agC (by simp)
@[simp] theorem ag_lri {it : I} : ag B G (.cons (.lri it) r) e s = (ev B G (.lri it) e s).bind (kAg B G r) := agC (by simp)
@[simp] theorem ag_blt {f : Bf} : ag B G (.cons (.blt f es) r) e s = (ev B G (.blt f es) e s).bind (kAg B G r) := agC (by simp)
@[simp] theorem ag_chv {f : Cf} : ag B G (.cons (.chv f i es) r) e s = (ev B G (.chv f i es) e s).bind (kAg B G r) := agC (by simp)
@[simp] theorem ag_cho {f : Cf} : ag B G (.cons (.cho f a es) r) e s = (ev B G (.cho f a es) e s).bind (kAg B G r) := agC (by simp)
@[simp] theorem ag_sub : ag B G (.cons (.sub es) r) e s = (ev B G (.sub es) e s).bind (kAg B G r) := agC (by simp)
@[simp] theorem ag_slc {k : Nat} : ag B G (.cons (.slc k es) r) e s = (ev B G (.slc k es) e s).bind (kAg B G r) := agC (by simp)
@[simp] theorem ag_dct {l : Bool} : ag B G (.cons (.dct l es) r) e s = (ev B G (.dct l es) e s).bind (kAg B G r) := agC (by simp)
@[simp] theorem ag_stt : ag B G (.cons (.stt es a) r) e s = (ev B G (.stt es a) e s).bind (kAg B G r) := agC (by simp)
@[simp] theorem ag_mth {m : Mf} {os : Es} : ag B G (.cons (.mth m os es) r) e s = (ev B G (.mth m os es) e s).bind (kAg B G r) := agC (by simp)
@[simp] theorem ag_mxd {d : Int} {es : Es} : ag B G (.cons (.mxd d es) r) e s = (ev B G (.mxd d es) e s).bind (kAg B G r) := agC (by simp)
@[simp] theorem ag_prp {cs : List (Str × Str)} {m : Str} {es : Es} : ag B G (.cons (.prp cs m es) r) e s = (ev B G (.prp cs m es) e s).bind (kAg B G r) := agC (by simp)
@[simp] theorem ag_opm {cs : List (Str × Str)} {es : Es} : ag B G (.cons (.opm cs es) r) e s = (ev B G (.opm cs es) e s).bind (kAg B G r) := agC (by simp)
@[simp] theorem ag_isc {c : Str} {es : Es} : ag B G (.cons (.isc c es) r) e s = (ev B G (.isc c es) e s).bind (kAg B G r) := agC (by simp)
@[simp] theorem ag_cmo {l : Bool} {t : T} {cs : Es} {own : List (Str × Nat)} : ag B G (.cons (.cmo l a t i cs own) r) e s = (ev B G (.cmo l a t i cs own) e s).bind (kAg B G r) := agC (by simp)
@[simp] theorem ag_cmd {l : Bool} {t : T} {cs : Es} {own : List (Str × Nat)} : ag B G (.cons (.cmd l a t i cs own) r) e s = (ev B G (.cmd l a t i cs own) e s).bind (kAg B G r) := agC (by simp)
@[simp] theorem ag_cms {l : Bool} {t : T} {o : E} {cs : Es} {own : List (Str × Nat)} : ag B G (.cons (.cms l a t o cs own) r) e s = (ev B G (.cms l a t o cs own) e s).bind (kAg B G r) := agC (by simp)
@[simp] theorem ag_comp {l : Bool} {t : T} {it : I} {cs : Es} {own : List (Str × Nat)} : ag B G (.cons (.comp l a t it cs own) r) e s = (ev B G (.comp l a t it cs own) e s).bind (kAg B G r) := agC (by simp)
@[simp] theorem ag_dcm {l : Bool} {t : T} {it : I} {cs : Es} {own : List (Str × Nat)} : ag B G (.cons (.dcm l a b t it cs own) r) e s = (ev B G (.dcm l a b t it cs own) e s).bind (kAg B G r) := agC (by simp)
@[simp] theorem ag_gds {z : Str} : ag B G (.cons (.gds z a) r) e s = (ev B G (.gds z a) e s).bind (kAg B G r) := agC (by simp)
@[simp] theorem ag_gdg {z : Str} {es : Es} : ag B G (.cons (.gdg z es) r) e s = (ev B G (.gdg z es) e s).bind (kAg B G r) := agC (by simp)
@[simp] theorem ag_gdi {nn : Bool} {z : Str} : ag B G (.cons (.gdi nn z a) r) e s = (ev B G (.gdi nn z a) e s).bind (kAg B G r) := agC (by simp)
@[simp] theorem ag_slb : ag B G (.cons (.slb es a) r) e s = (ev B G (.slb es a) e s).bind (kAg B G r) := agC (by simp)
def kIt : DB → En → Sto → R (List D) := fun d e s => match itemsD d.1 with
    | some xs => .ok xs e s
    | none => .no
@[simp] theorem kIt_eq {d : DB} : kIt d e s = match itemsD d.1 with
    | some xs => .ok xs e s
    | none => .no := (rfl)
@[simp] theorem its_it : its B G (.it a) e s = (ev B G a e s).bind kIt := by rw [its]; rfl
def kRg1 : DB → En → Sto → R (List D) := fun d e s => match d.1 with
    | .int j => if small62 j then .ok (rangeL 0 j) e s else .no
    | _ => .no
@[simp] theorem kRg1_eq {w : Bool} {j : Int} : kRg1 (.int j, w) e s = if small62 j then .ok (rangeL 0 j) e s else .no := (rfl)
@[simp] theorem its_rg1 : its B G (.rg1 a) e s = (ev B G a e s).bind kRg1 := by rw [its]; rfl
def kRgb (x : DB) : DB → En → Sto → R (List D) := fun y e s => match x.1, y.1 with
    | .int i, .int j => if small62 i && small62 j then .ok (rangeL i j) e s else .no
    | _, _ => .no
@[simp] theorem kRgb_eq {w u : Bool} {j k : Int} : kRgb (.int j, w) (.int k, u) e s = if small62 j && small62 k then .ok (rangeL j k) e s else .no := (rfl)
def kRg2 (B : Tab) (G : Glb) (b : E) : DB → En → Sto → R (List D) := fun x e s => (ev B G b e s).bind (kRgb x)
@[simp] theorem kRg2_eq {x : DB} : kRg2 B G b x e s = (ev B G b e s).bind (kRgb x) := (rfl)
@[simp] theorem its_rg2 : its B G (.rg2 a b) e s = (ev B G a e s).bind (kRg2 B G b) := by rw [its]; rfl
def kRev : DB → En → Sto → R (List D) := fun d e s => match d.1 with
    | .lst xs => .ok xs.reverse e s
    | .tup xs => .ok xs.reverse e s
    | _ => .no
def kRv1 : DB → En → Sto → R (List D) := fun d e s => match d.1 with
    | .int j => if small62 j then .ok (rangeL 0 j).reverse e s else .no
    | _ => .no
@[simp] theorem kRv1_eq {w : Bool} {j : Int} : kRv1 (.int j, w) e s = if small62 j then .ok (rangeL 0 j).reverse e s else .no := (rfl)
@[simp] theorem its_rv1 : its B G (.rv1 a) e s = (ev B G a e s).bind kRv1 := by rw [its]; rfl
def kRvb (x : DB) : DB → En → Sto → R (List D) := fun y e s => match x.1, y.1 with
    | .int i, .int j => if small62 i && small62 j then .ok (rangeL i j).reverse e s else .no
    | _, _ => .no
@[simp] theorem kRvb_eq {w u : Bool} {j k : Int} : kRvb (.int j, w) (.int k, u) e s = if small62 j && small62 k then .ok (rangeL j k).reverse e s else .no := (rfl)
def kRv2 (B : Tab) (G : Glb) (b : E) : DB → En → Sto → R (List D) := fun x e s => (ev B G b e s).bind (kRvb x)
@[simp] theorem kRv2_eq {x : DB} : kRv2 B G b x e s = (ev B G b e s).bind (kRvb x) := (rfl)
@[simp] theorem its_rv2 : its B G (.rv2 a b) e s = (ev B G a e s).bind (kRv2 B G b) := by rw [its]; rfl
@[simp] theorem kRev_tup {w : Bool} {l : List D} : kRev (.tup l, w) e s = .ok l.reverse e s := (rfl)
@[simp] theorem kRev_eq {w : Bool} {l : List D} : kRev (.lst l, w) e s = .ok l.reverse e s := (rfl)
def kZpb (x : DB) : DB → En → Sto → R (List D) := fun y e s => match x.1, y.1 with
    | .lst xs, .lst ys => .ok (List.zipWith (fun x y => D.tup [x, y]) xs ys) e s
    | .tup xs, .tup ys => .ok (List.zipWith (fun x y => D.tup [x, y]) xs ys) e s
    | _, _ => .no
@[simp] theorem kZpb_l {w u : Bool} {l m : List D} : kZpb (.lst l, w) (.lst m, u) e s = .ok (List.zipWith (fun x y => D.tup [x, y]) l m) e s := (rfl)
@[simp] theorem kZpb_t {w u : Bool} {l m : List D} : kZpb (.tup l, w) (.tup m, u) e s = .ok (List.zipWith (fun x y => D.tup [x, y]) l m) e s := (rfl)
def kZip (B : Tab) (G : Glb) (b : E) : DB → En → Sto → R (List D) := fun x e s => (ev B G b e s).bind (kZpb x)
@[simp] theorem kZip_eq {x : DB} : kZip B G b x e s = (ev B G b e s).bind (kZpb x) := (rfl)
@[simp] theorem its_zip : its B G (.zip a b) e s = (ev B G a e s).bind (kZip B G b) := by rw [its]; rfl
def kEnu : DB → En → Sto → R (List D) := fun d e s => match d.1 with
    | .lst xs => .ok (numL 0 xs) e s
    | .tup xs => .ok (numL 0 xs) e s
    | _ => .no
@[simp] theorem kEnu_tup {w : Bool} {l : List D} : kEnu (.tup l, w) e s = .ok (numL 0 l) e s := (rfl)
@[simp] theorem kEnu_eq {w : Bool} {l : List D} : kEnu (.lst l, w) e s = .ok (numL 0 l) e s := (rfl)
@[simp] theorem its_enu : its B G (.enu a) e s = (ev B G a e s).bind kEnu := by rw [its]; rfl
def kEns (k : Int) : DB → En → Sto → R (List D) := fun d e s => match d.1 with
    | .tup xs => .ok (numL k xs) e s
    | _ => .no
@[simp] theorem kEns_eq {w : Bool} {l : List D} {k : Int} : kEns k (.tup l, w) e s = .ok (numL k l) e s := (rfl)
@[simp] theorem its_ens {k : Int} : its B G (.ens a k) e s = if small62 k then (ev B G a e s).bind (kEns k) else .no := by rw [its]; rfl
@[simp] theorem numL_nil {k : Int} : numL k [] = [] := (rfl)
@[simp] theorem numL_cons {k : Int} {l : List D} : numL k (x :: l) = D.tup [.int k, x] :: numL (k + 1) l := (rfl)
@[simp] theorem its_rev : its B G (.rev a) e s = (ev B G a e s).bind kRev := by rw [its]; rfl
@[simp] theorem asg_nm {v : DB} : asg B G (.nm i) v e s = if i < e.length then .ok () (putN e i v) s else .no := by rw [asg]
@[simp] theorem asg_tp {v : DB} {ts : Ts} : asg B G (.tp ts) v e s = match v.1 with
    | .tup xs => if xs.length = tsLen ts then asgs B G ts xs e s else .no
    | _ => .no := by rw [asg] <;> rfl
def setF (k v : D) : D → Option (D × D) := fun x => (setD x k v).map fun x' => (.none, x')
@[simp] theorem setF_eq {k v : D} : setF k v x = (setD x k v).map fun x' => (.none, x') := (rfl)
def kU {α : Type} : α → En → Sto → R Unit := fun _ e s => .ok () e s
@[simp] theorem kU_eq {α : Type} {z : α} : kU z e s = .ok () e s := (rfl)
def kSbv (n : Nat) (v : D) : DB → En → Sto → R Unit := fun k e s => (chgS (setF k.1 v) n e s).bind kU
@[simp] theorem kSbv_eq {v : D} {k : DB} : kSbv n v k e s = (chgS (setF k.1 v) n e s).bind kU := (rfl)
@[simp] theorem asg_sbv {v : DB} : asg B G (.sbv n a) v e s = if isDef e n then (ev B G a e s).bind (kSbv n v.1) else .no := by rw [asg]; rfl
def kSb2 (d v : D) : DB → En → Sto → R Unit := fun k e s => (chgO (setF k.1 v) d e s).bind kU
@[simp] theorem kSb2_eq {d v : D} {k : DB} : kSb2 d v k e s = (chgO (setF k.1 v) d e s).bind kU := (rfl)
def kSbo (B : Tab) (G : Glb) (b : E) (v : D) : DB → En → Sto → R Unit := fun d e s => (ev B G b e s).bind (kSb2 d.1 v)
@[simp] theorem kSbo_eq {v : D} {d : DB} : kSbo B G b v d e s = (ev B G b e s).bind (kSb2 d.1 v) := (rfl)
@[simp] theorem asg_sbo {v : DB} : asg B G (.sbo a b) v e s = (ev B G a e s).bind (kSbo B G b v.1) := by rw [asg]; rfl
@[simp] theorem asgs_nil : asgs B G .nil [] e s = .ok () e s := by rw [asgs]
def kAsgs (B : Tab) (G : Glb) (ts : Ts) (xs : List D) : Unit → En → Sto → R Unit := fun _ e s => asgs B G ts xs e s
@[simp] theorem kAsgs_eq {ts : Ts} {xs : List D} {z : Unit} : kAsgs B G ts xs z e s = asgs B G ts xs e s := (rfl)
@[simp] theorem asgs_cons {t : T} {ts : Ts} {xs : List D} : asgs B G (.cons t ts) (x :: xs) e s = (asg B G t (x, false) e s).bind (kAsgs B G ts xs) := by rw [asgs]; rfl
@[simp] theorem tsLen_nil : tsLen .nil = 0 := (rfl)
@[simp] theorem tsLen_cons {t : T} {ts : Ts} : tsLen (.cons t ts) = tsLen ts + 1 := (rfl)
def kNx {α : Type} : α → En → Sto → R O := fun _ e s => .ok .nx e s
@[simp] theorem kNx_eq {α : Type} {z : α} : kNx z e s = .ok .nx e s := (rfl)
@[simp] theorem xS_exp : xS B G (.exp a) e s = (ev B G a e s).bind kNx := by rw [xS]; rfl
def setG (cs : List Str) (f : Str) (v : D) : D → Option (D × D) := fun x => (setFd cs f x v).map fun x' => (.none, x')
@[simp] theorem setG_eq {cs : List Str} {f : Str} {v : D} : setG cs f v x = (setFd cs f x v).map fun x' => (.none, x') := (rfl)
def kSav (n : Nat) (cs : List Str) (f : Str) : DB → En → Sto → R O := fun d e s => if isDef e n then (chgS (setG cs f d.1) n e s).bind kNx else .no
@[simp] theorem kSav_eq {cs : List Str} {f : Str} {d : DB} : kSav n cs f d e s = if isDef e n then (chgS (setG cs f d.1) n e s).bind kNx else .no := (rfl)
@[simp] theorem xS_sav {cs : List Str} {f : Str} : xS B G (.sav n cs f a) e s = (ev B G a e s).bind (kSav n cs f) := by rw [xS]; rfl
def kSao2 (cs : List Str) (f : Str) (v : D) : DB → En → Sto → R O := fun x e s => (chgO (setG cs f v) x.1 e s).bind kNx
@[simp] theorem kSao2_eq {cs : List Str} {f : Str} {v : D} {d : DB} : kSao2 cs f v d e s = (chgO (setG cs f v) d.1 e s).bind kNx := (rfl)
def kSao (B : Tab) (G : Glb) (b : E) (cs : List Str) (f : Str) : DB → En → Sto → R O := fun d e s => (ev B G b e s).bind (kSao2 cs f d.1)
@[simp] theorem kSao_eq {cs : List Str} {f : Str} {d : DB} : kSao B G b cs f d e s = (ev B G b e s).bind (kSao2 cs f d.1) := (rfl)
@[simp] theorem xS_sao {cs : List Str} {f : Str} : xS B G (.sao b cs f a) e s = (ev B G a e s).bind (kSao B G b cs f) := by rw [xS]; rfl
def kSet (B : Tab) (G : Glb) (t : T) : DB → En → Sto → R O := fun d e s => (asg B G t d e s).bind kNx
@[simp] theorem kSet_eq {t : T} {d : DB} : kSet B G t d e s = (asg B G t d e s).bind kNx := (rfl)
@[simp] theorem xS_set {t : T} : xS B G (.set t a) e s = (ev B G a e s).bind (kSet B G t) := by rw [xS]; rfl
def kAug (i : Nat) (op : Operator) (x : D) : DB → En → Sto → R O := fun d e s => match augD op x d.1 with
      | some r => .ok .nx (putN e i (r, false)) s
      | none => .no
@[simp] theorem kAug_eq {op : Operator} {d : DB} : kAug i op x d e s = match augD op x d.1 with
      | some r => .ok .nx (putN e i (r, false)) s
      | none => .no := (rfl)
@[simp] theorem xS_aug {op : Operator} : xS B G (.aug i op a) e s = match e[i]? with
    | some (.fr x) => (ev B G a e s).bind (kAug i op x)
    | _ => .no := by rw [xS]; rfl
def kIfs (B : Tab) (G : Glb) (u v : Ss) : DB → En → Sto → R O := fun d e s => match d.1 with
  | .bool z => if z then xL B G u e s else xL B G v e s
  | _ => .no
@[simp] theorem kIfs_eq {u v : Ss} {z w : Bool} : kIfs B G u v (.bool z, w) e s = if z then xL B G u e s else xL B G v e s := (rfl)
@[simp] theorem xS_ifs {u v : Ss} : xS B G (.ifs c u v) e s = (ev B G c e s).bind (kIfs B G u v) := by
  rw [xS]; unfold evB
  cases ev B G c e s with
  | ok d e s => cases d with | mk d w => cases d <;> rfl
  | ex x e s => rfl
  | no => rfl
def kRse (c : Str) (fs : List Str) : List Ar → En → Sto → R O := fun as e s => match rd e as with
    | some ds => if ds.length = fs.length ∧ ds.all atomB = true then .ex ⟨c, (fs.zip ds).reverse⟩ (fz e as) s else .no
    | none => .no
@[simp] theorem kRse_eq {c : Str} {fs : List Str} {as : List Ar} : kRse c fs as e s = match rd e as with
    | some ds => if ds.length = fs.length ∧ ds.all atomB = true then .ex ⟨c, (fs.zip ds).reverse⟩ (fz e as) s else .no
    | none => .no := (rfl)
@[simp] theorem atomB_int {j : Int} : atomB (.int j) = true := (rfl)
@[simp] theorem atomB_str {j : Str} : atomB (.str j) = true := (rfl)
@[simp] theorem atomB_bool {j : Bool} : atomB (.bool j) = true := (rfl)
@[simp] theorem atomB_none : atomB .none = true := (rfl)
@[simp] theorem xS_rse {c : Str} {fs : List Str} : xS B G (.rse c fs es) e s = (ag B G es e s).bind (kRse c fs) := by rw [xS]; rfl
@[simp] theorem putX_some {i : Nat} {x : Xc} : putX e (some i) x = if i < e.length then some ((e.map unX).set i (.xc x)) else none := (rfl)
@[simp] theorem putX_none {x : Xc} : putX e none x = some (e.map unX) := (rfl)
@[simp] theorem outX_some {i : Nat} : outX e (some i) = (e.map unX).set i .un := (rfl)
@[simp] theorem outX_none : outX e none = e.map unX := (rfl)
@[simp] theorem unX_xc' {x : Xc} : unX (.xc x) = .un := (rfl)
@[simp] theorem unX_un' : unX .un = .un := (rfl)
@[simp] theorem unX_fr' {d : D} : unX (.fr d) = .fr d := (rfl)
@[simp] theorem unX_ow' {d : D} : unX (.ow d) = .ow d := (rfl)
/-- behind an except suite -/
def rTr2 (i : Option Nat) : R O → R O
  | .ok o e s => .ok o (outX e i) s
  | _ => .no
@[simp] theorem rTr2_ok {i : Option Nat} {o : O} : rTr2 i (.ok o e s) = .ok o (outX e i) s := (rfl)
/-- .. a try's body -/
def rTry (B : Tab) (G : Glb) (i : Option Nat) (ys ns : List Str) (c : Ss) : R O → R O
  | .ok o e s => .ok o e s
  | .ex x e s => if ys.contains x.c then (if x.fs.all (fun p => atomB p.2) then (match putX e i x with
        | some e => rTr2 i (xL B G c e s)
        | none => .no) else .no)
      else if ns.contains x.c then .ex x e s else .no
  | .no => .no
@[simp] theorem rTry_ok {i : Option Nat} {ys ns : List Str} {c : Ss} {o : O} : rTry B G i ys ns c (.ok o e s) = .ok o e s := (rfl)
@[simp] theorem rTry_ex {i : Option Nat} {ys ns : List Str} {c : Ss} {x : Xc} : rTry B G i ys ns c (.ex x e s) = if ys.contains x.c then (if x.fs.all (fun p => atomB p.2) then (match putX e i x with
        | some e => rTr2 i (xL B G c e s)
        | none => .no) else .no)
      else if ns.contains x.c then .ex x e s else .no := (rfl)
@[simp] theorem xS_trx {i : Option Nat} {cn : Str} {ys ns : List Str} {b c : Ss} : xS B G (.trx i cn ys ns b c) e s = rTry B G i ys ns c (xL B G b e s) := by
  rw [xS]
  cases xL B G b e s with
  | ok o e s => rfl
  | no => rfl
  | ex x e s =>
    show (if ys.contains x.c then (if x.fs.all (fun p => atomB p.2) then (match putX e i x with
        | some e => (match xL B G c e s with
          | .ok o e s => R.ok o (outX e i) s
          | _ => .no)
        | none => .no) else .no)
      else if ns.contains x.c then .ex x e s else .no) = _
    rw [rTry_ex]
    congr 2
def cndW (B : Tab) (G : Glb) (c : E) : En → Sto → R Bool := fun e s => evB B G c e s
def bodW (B : Tab) (G : Glb) (u : Ss) : En → Sto → R O := fun e s => xL B G u e s
theorem xS_whl {u : Ss} : xS B G (.whl c u) e s = whlL (cndW B G c) (bodW B G u) fuel e s := by rw [xS]; rfl
/-- a turn of a loop -/
def turn (B : Tab) (G : Glb) (t : T) (u : Ss) : D → En → Sto → R O := fun x e s => (asg B G t (x, false) e s).bind fun _ e s => xL B G u e s
/-- .. over a dict -/
def fdkR (B : Tab) (G : Glb) (t : T) (m : Nat) (u : Ss) : Option Sl → En → Sto → R O := fun o e s => match o with
    | some (.fr (.dic kvs)) => R.nox (forL (turn B G t u) (dkL m kvs) e s)
    | _ => .no
@[simp] theorem fdkR_eq {t : T} {m : Nat} {u : Ss} {kvs : List (D × D)} : fdkR B G t m u (some (.fr (.dic kvs))) e s = R.nox (forL (turn B G t u) (dkL m kvs) e s) := (rfl)
def fdsR (B : Tab) (G : Glb) (t : T) (u : Ss) : Option Sl → Option Sl → En → Sto → R O := fun o o2 e s => match o, o2 with
    | some (.fr (.lst ds)), some (.fr (.int n)) => (match L2.atI ds n with
      | some (.dic kvs) => R.nox (forL (turn B G t u) (dkL 0 kvs) e s)
      | _ => .no)
    | _, _ => .no
@[simp] theorem fdsR_eq {t : T} {u : Ss} {ds : List D} {n : Int} : fdsR B G t u (some (.fr (.lst ds))) (some (.fr (.int n))) e s = match L2.atI ds n with
      | some (.dic kvs) => R.nox (forL (turn B G t u) (dkL 0 kvs) e s)
      | _ => .no := (rfl)
@[simp] theorem xS_fds {t : T} {i j : Nat} {u : Ss} : xS B G (.fds t i j u) e s = fdsR B G t u (fz1 e i)[i]? (fz1 e i)[j]? (fz1 e i) s := by rw [xS]; try rfl
@[simp] theorem xS_fdk {t : T} {m : Nat} {u : Ss} : xS B G (.fdk t m i u) e s = fdkR B G t m u (fz1 e i)[i]? (fz1 e i) s := by rw [xS]; try rfl
@[simp] theorem dkL_0 {kvs : List (D × D)} : dkL 0 kvs = kvs.map (·.1) := (rfl)
@[simp] theorem dkL_1 {kvs : List (D × D)} : dkL 1 kvs = kvs.map fun p => .tup [p.1, p.2] := (rfl)
@[simp] theorem dkL_2 {kvs : List (D × D)} : dkL 2 kvs = kvs.map (·.2) := (rfl)
def kTurn (B : Tab) (G : Glb) (u : Ss) : Unit → En → Sto → R O := fun _ e s => xL B G u e s
@[simp] theorem kTurn_eq {u : Ss} {z : Unit} : kTurn B G u z e s = xL B G u e s := (rfl)
@[simp] theorem turn_eq {t : T} {u : Ss} : turn B G t u x e s = (asg B G t (x, false) e s).bind (kTurn B G u) := (rfl)
def kFor (f : D → En → Sto → R O) : List D → En → Sto → R O := fun xs e s => forL f xs e s
@[simp] theorem kFor_eq {f : D → En → Sto → R O} {l : List D} : kFor f l e s = forL f l e s := (rfl)
def turnS (B : Tab) (G : Glb) (t : T) (u : Ss) (n : Nat) (xs : List D) : D → En → Sto → R O := fun x e s => if isL s n xs then turn B G t u x e s else .no
@[simp] theorem turnS_eq {t : T} {u : Ss} {n : Nat} {xs : List D} {x : D} : turnS B G t u n xs x e s = if isL s n xs then turn B G t u x e s else .no := (rfl)
@[simp] theorem fosK_nx {n : Nat} {xs : List D} : fosK n xs .nx e s = if isL s n xs then .ok .nx e s else .no := (rfl)
@[simp] theorem fosK_rt {n : Nat} {xs : List D} {w : Bool} : fosK n xs (.rt x w) e s = .ok (.rt x w) e s := (rfl)
def kFos (B : Tab) (G : Glb) (t : T) (u : Ss) : DB → En → Sto → R O := fun d e s => match d.1 with
  | .loc n => (match s[n]? with
    | some (.lst xs) => (forL (turnS B G t u n xs) xs e s).bind (fosK n xs)
    | _ => .no)
  | _ => .no
@[simp] theorem kFos_eq {t : T} {u : Ss} {n : Nat} {w : Bool} : kFos B G t u (.loc n, w) e s = match s[n]? with
    | some (.lst xs) => (forL (turnS B G t u n xs) xs e s).bind (fosK n xs)
    | _ => .no := (rfl)
@[simp] theorem xS_fos {t : T} {o : E} {u : Ss} : xS B G (.fos t o u) e s = (ev B G o e s).bind (kFos B G t u) := by rw [xS]; rfl
@[simp] theorem xS_for {t : T} {it : I} {u : Ss} : xS B G (.for_ t it u) e s = (its B G it e s).bind (kFor (turn B G t u)) := by rw [xS]; rfl
def kRet : DB → En → Sto → R O := fun d e s => .ok (.rt d.1 d.2) e s
@[simp] theorem kRet_eq {d : DB} : kRet d e s = .ok (.rt d.1 d.2) e s := (rfl)
@[simp] theorem xS_ret : xS B G (.ret a) e s = (ev B G a e s).bind kRet := by rw [xS]; rfl
@[simp] theorem xS_retN : xS B G .retN e s = .ok (.rt .none false) e s := by rw [xS]
@[simp] theorem xS_brk : xS B G .brk e s = .ok .bk e s := by rw [xS]
@[simp] theorem xS_cnt : xS B G .cnt e s = .ok .ct e s := by rw [xS]
@[simp] theorem xS_pas : xS B G .pas e s = .ok .nx e s := by rw [xS]
@[simp] theorem xL_nil : xL B G .nil e s = .ok .nx e s := by rw [xL]
def kL (B : Tab) (G : Glb) (v : Ss) : O → En → Sto → R O := fun o e s => match o with
    | .nx => xL B G v e s
    | o => .ok o e s
@[simp] theorem kL_nx {v : Ss} : kL B G v .nx e s = xL B G v e s := (rfl)
@[simp] theorem kL_rt {v : Ss} {w : Bool} : kL B G v (.rt x w) e s = .ok (.rt x w) e s := (rfl)
@[simp] theorem kL_bk {v : Ss} : kL B G v .bk e s = .ok .bk e s := (rfl)
@[simp] theorem kL_ct {v : Ss} : kL B G v .ct e s = .ok .ct e s := (rfl)
@[simp] theorem xL_cons {u : S} {v : Ss} : xL B G (.cons u v) e s = (xS B G u e s).bind (kL B G v) := by
  rw [xL]; congr 1
def kB : DB → En → Sto → R Bool := fun d e s => match d.1 with
  | .bool b => .ok b e s
  | _ => .no
@[simp] theorem kB_eq {z w : Bool} : kB (.bool z, w) e s = .ok z e s := (rfl)
@[simp] theorem evB_eq : evB B G c e s = (ev B G c e s).bind kB := (rfl)
@[simp] theorem forL_nil {f : D → En → Sto → R O} : forL f [] e s = .ok .nx e s := (rfl)
def kTn (f : D → En → Sto → R O) (xs : List D) : O → En → Sto → R O := fun o e s => match o with
    | .nx | .ct => forL f xs e s
    | .bk => .ok .nx e s
    | .rt d w => .ok (.rt d w) e s
@[simp] theorem kTn_nx {f : D → En → Sto → R O} {xs : List D} : kTn f xs .nx e s = forL f xs e s := (rfl)
@[simp] theorem kTn_ct {f : D → En → Sto → R O} {xs : List D} : kTn f xs .ct e s = forL f xs e s := (rfl)
@[simp] theorem kTn_bk {f : D → En → Sto → R O} {xs : List D} : kTn f xs .bk e s = .ok .nx e s := (rfl)
@[simp] theorem kTn_rt {f : D → En → Sto → R O} {xs : List D} {w : Bool} : kTn f xs (.rt x w) e s = .ok (.rt x w) e s := (rfl)
@[simp] theorem forL_cons {f : D → En → Sto → R O} {xs : List D} : forL f (x :: xs) e s = (f x e s).bind (kTn f xs) := by
  show (f x e s).bind _ = _
  congr 1
def kWb (c : En → Sto → R Bool) (f : En → Sto → R O) (n : Nat) : O → En → Sto → R O := fun o e s => match o with
      | .nx | .ct => whlL c f n e s
      | .bk => .ok .nx e s
      | .rt d w => .ok (.rt d w) e s
@[simp] theorem kWb_nx {c : En → Sto → R Bool} {f : En → Sto → R O} {n : Nat} : kWb c f n .nx e s = whlL c f n e s := (rfl)
@[simp] theorem kWb_ct {c : En → Sto → R Bool} {f : En → Sto → R O} {n : Nat} : kWb c f n .ct e s = whlL c f n e s := (rfl)
@[simp] theorem kWb_bk {c : En → Sto → R Bool} {f : En → Sto → R O} {n : Nat} : kWb c f n .bk e s = .ok .nx e s := (rfl)
@[simp] theorem kWb_rt {c : En → Sto → R Bool} {f : En → Sto → R O} {n : Nat} {w : Bool} : kWb c f n (.rt x w) e s = .ok (.rt x w) e s := (rfl)
def kWc (c : En → Sto → R Bool) (f : En → Sto → R O) (n : Nat) : Bool → En → Sto → R O := fun b e s => if b then (f e s).bind (kWb c f n) else .ok .nx e s
theorem kWc_eq {c : En → Sto → R Bool} {f : En → Sto → R O} {n : Nat} {b : Bool} : kWc c f n b e s = if b then (f e s).bind (kWb c f n) else .ok .nx e s := (rfl)
theorem whlL_succ {f : En → Sto → R Bool} {g : En → Sto → R O} {n : Nat} : whlL f g (n + 1) e s = (f e s).bind (kWc f g n) := by
  show (f e s).bind _ = _
  congr 1
/-- a loop by an invariant -/
theorem forL_inv {f : D → En → Sto → R O} (P : Nat → En → Sto → Prop) : ∀ (xs : List D) (j : Nat) (e : En) (s : Sto), P j e s → (∀ i x e s, xs[i]? = some x → P (j + i) e s → ∃ e' s', f x e s = .ok .nx e' s' ∧ P (j + i + 1) e' s') → ∃ e' s', forL f xs e s = .ok .nx e' s' ∧ P (j + xs.length) e' s'
  | [], j, e, s, h, _ => ⟨e, s, rfl, h⟩
  | x :: xs, j, e, s, h, st => by
    obtain ⟨e1, s1, h1, h2⟩ := st 0 x e s rfl h
    obtain ⟨e2, s2, h3, h4⟩ := forL_inv P xs (j + 1) e1 s1 h2 (fun i y e s hy hp => by
      have := st (i + 1) y e s (by simpa using hy) (by rwa [show j + (i + 1) = j + 1 + i by omega])
      rwa [show j + (i + 1) + 1 = j + 1 + i + 1 by omega] at this)
    exact ⟨e2, s2, by rw [forL_cons, h1]; exact h3, by rw [List.length_cons, show j + (xs.length + 1) = j + 1 + xs.length by omega]; exact h4⟩
/-- .. over the first numbers -/
theorem forL_range {f : D → En → Sto → R O} (P : Nat → En → Sto → Prop) {m : Int} {e : En} {s : Sto} (h : P 0 e s) (st : ∀ (i : Nat) e s, (i : Int) < m → P i e s → ∃ e' s', f (.int i) e s = .ok .nx e' s' ∧ P (i + 1) e' s') : ∃ e' s', forL f (rangeL 0 m) e s = .ok .nx e' s' ∧ P m.toNat e' s' := by
  obtain ⟨e', s', h1, h2⟩ := forL_inv (f := f) P (rangeL 0 m) 0 e s h (fun i x e s hx hp => by
    unfold rangeL at hx
    rw [List.getElem?_map] at hx
    have hi : i < (m - 0).toNat := by
      by_cases q : i < (m - 0).toNat
      · exact q
      · rw [List.getElem?_eq_none (by simpa using q)] at hx; cases hx
    rw [List.getElem?_range hi] at hx
    have hx : D.int (0 + (i : Int)) = x := by simpa using hx
    rw [Int.zero_add] at hx
    subst hx
    have := st i e s (by omega) (by simpa using hp)
    simpa using this)
  refine ⟨e', s', h1, ?_⟩
  have : (rangeL 0 m).length = m.toNat := by unfold rangeL; simp
  rw [this] at h2
  simpa using h2
@[simp] theorem rd_nil : rd e [] = some [] := (rfl)
@[simp] theorem rd_cons {u : Ar} {l : List Ar} : rd e (u :: l) = (rd1 e u).bind fun d => (rd e l).map (d :: ·) := (rfl)
@[simp] theorem rd1_v : rd1 e (.v x) = some x := (rfl)
@[simp] theorem rd1_s : rd1 e (.s i) = (e[i]?).bind rdS := (rfl)
@[simp] theorem rdS_fr : rdS (.fr x) = some x := (rfl)
@[simp] theorem rdS_ow : rdS (.ow x) = some x := (rfl)
@[simp] theorem isDef_eq : isDef e i = match e[i]? with
  | some (.fr _) | some (.ow _) => true
  | _ => false := rfl
@[simp] theorem fz_nil : fz e [] = e := (rfl)
@[simp] theorem fz_v {l : List Ar} : fz e (.v x :: l) = fz e l := (rfl)
@[simp] theorem fz_s {l : List Ar} : fz e (.s i :: l) = fz (fz1 e i) l := (rfl)
@[simp] theorem fz1_eq : fz1 e i = match e[i]? with
  | some (.ow d) => e.set i (.fr d)
  | _ => e := rfl
@[simp] theorem ders_nil : ders s [] = some [] := (rfl)
@[simp] theorem ders_cons {l : List D} : ders s (x :: l) = (der s x).bind fun x => (ders s l).map (x :: ·) := (rfl)
@[simp] theorem der_loc : der s (.loc n) = s[n]? := (rfl)
@[simp] theorem der_int {j : Int} : der s (.int j) = some (.int j) := (rfl)
@[simp] theorem der_str {j : Str} : der s (.str j) = some (.str j) := (rfl)
@[simp] theorem der_bool {j : Bool} : der s (.bool j) = some (.bool j) := (rfl)
@[simp] theorem der_none : der s .none = some .none := (rfl)
@[simp] theorem der_tup {l : List D} : der s (.tup l) = some (.tup l) := (rfl)
@[simp] theorem der_lst {l : List D} : der s (.lst l) = some (.lst l) := (rfl)
@[simp] theorem der_dic {l : List (D × D)} : der s (.dic l) = some (.dic l) := (rfl)
@[simp] theorem der_obj {c : Str} {l : List (Str × D)} : der s (.obj c l) = some (.obj c l) := (rfl)
@[simp] theorem der_ty {j : String} : der s (.ty j) = some (.ty j) := (rfl)
@[simp] theorem stow_t : stow true x e s = .ok (.loc s.length, false) e (s ++ [x]) := (rfl)
@[simp] theorem stow_f : stow false x e s = .ok (x, true) e s := (rfl)
@[simp] theorem opR_eq {as : List Ar} {f : List D → R DB} : opR e s as f = match (rd e as).bind (ders s) with
  | some ds => f ds
  | none => .no := rfl
@[simp] theorem iff_t {w : Bool} {u v : R DB} : iff (.bool true, w) u v = u := (rfl)
@[simp] theorem iff_f {w : Bool} {u v : R DB} : iff (.bool false, w) u v = v := (rfl)
@[simp] theorem iff_b {z : Bool} {w : Bool} {u v : R DB} : iff (.bool z, w) u v = if z then u else v := by cases z <;> rfl
@[simp] theorem boolR_some {z : Bool} : boolR (some z) e s = .ok (.bool z, false) e s := (rfl)
@[simp] theorem callS_rt {w : Bool} {s' : Sto} {as : List Ar} : callS (some (.rt x w, s')) e as = .ok (x, w) (fz e as) s' := (rfl)
@[simp] theorem callS_rx {z : Xc} {s' : Sto} {as : List Ar} : callS (some (.rx z, s')) e as = .ex z (fz e as) s' := (rfl)
@[simp] theorem callP_rx {z : Xc} {s' : Sto} {as : List Ar} : callP (some (.rx z, s')) e as s = if z.fs.all (fun p => atomB p.2) then .ex z e s else .no := (rfl)
@[simp] theorem callP_int {w : Bool} {s' : Sto} {as : List Ar} {j : Int} : callP (some (.rt (.int j) w, s')) e as s = .ok (.int j, w) e s := by simp [callP, tight, D.imm]
@[simp] theorem callP_str {w : Bool} {s' : Sto} {as : List Ar} {j : Str} : callP (some (.rt (.str j) w, s')) e as s = .ok (.str j, w) e s := by simp [callP, tight, D.imm]
@[simp] theorem callP_bool {w : Bool} {s' : Sto} {as : List Ar} {j : Bool} : callP (some (.rt (.bool j) w, s')) e as s = .ok (.bool j, w) e s := by simp [callP, tight, D.imm]
@[simp] theorem callP_none {w : Bool} {s' : Sto} {as : List Ar} : callP (some (.rt .none w, s')) e as s = .ok (.none, w) e s := by simp [callP, tight, D.imm]
theorem callP_lst {s' : Sto} {as : List Ar} {l : List D} (h : immL l = true) : callP (some (.rt (.lst l) true, s')) e as s = .ok (.lst l, true) e s := by simp [callP, tight, D.imm, immH, h]
theorem callP_dic {s' : Sto} {as : List Ar} {l : List (D × D)} (h : immK l = true) : callP (some (.rt (.dic l) true, s')) e as s = .ok (.dic l, true) e s := by simp [callP, tight, D.imm, immH, h]
theorem callP_tup {w : Bool} {s' : Sto} {as : List Ar} {l : List D} (h : immL l = true) : callP (some (.rt (.tup l) w, s')) e as s = .ok (.tup l, w) e s := by simp [callP, tight, D.imm, h]
@[simp] theorem nolL_nil : nolL [] = true := by rw [nolL]
@[simp] theorem nolL_cons {l : List D} : nolL (x :: l) = (x.nol && nolL l) := by rw [nolL]
@[simp] theorem nol_int {j : Int} : (D.int j).nol = true := by rw [D.nol]
@[simp] theorem nol_str {j : Str} : (D.str j).nol = true := by rw [D.nol]
@[simp] theorem nol_bool {j : Bool} : (D.bool j).nol = true := by rw [D.nol]
@[simp] theorem nol_none : (D.none).nol = true := by rw [D.nol]
@[simp] theorem nol_tup {l : List D} : (D.tup l).nol = nolL l := by rw [D.nol]
@[simp] theorem nol_lst {l : List D} : (D.lst l).nol = nolL l := by rw [D.nol]
@[simp] theorem nolL_ints {l : List Int} : nolL (l.map D.int) = true := by induction l <;> simp_all
@[simp] theorem immL_ints {l : List Int} : immL (l.map D.int) = true := by induction l <;> simp_all [immL, D.imm]
@[simp] theorem nolL_append {l m : List D} : nolL (l ++ m) = (nolL l && nolL m) := by induction l <;> simp_all [Bool.and_assoc]
@[simp] theorem putN_f : putN e i (x, false) = e.set i (.fr x) := (rfl)
@[simp] theorem putN_t : putN e i (x, true) = e.set i (.ow x) := (rfl)
/-! operators -/
@[simp] theorem binO_eq {op : Operator} : binO op [x, y] = binD op x y := (rfl)
@[simp] theorem nul_eq : nul x = some (x, false) := (rfl)
@[simp] theorem bin_add {p q : Int} : binD .Add (.int p) (.int q) = some (.int (p + q), false) := (rfl)
@[simp] theorem bin_sub {p q : Int} : binD .Sub (.int p) (.int q) = some (.int (p - q), false) := (rfl)
@[simp] theorem bin_mult {xs : List D} {k : Int} : binD .Mult (.tup xs) (.int k) = if xs.isEmpty = false ∧ 2 ≤ k ∧ k ≤ 1000 ∧ xs.length ≤ 1000 then some (.tup (List.replicate k.toNat xs).flatten, false) else none := (rfl)
@[simp] theorem bin_muls {z : Str} {k : Int} : binD .Mult (.str z) (.int k) = if 0 ≤ k ∧ k < 4611686018427387904 ∧ z.length * k.toNat ≤ sizeMax then some (.str (strRep z k.toNat), false) else none := (rfl)
@[simp] theorem cmp_gts {a b : Str} : cmpD .Gt (.str a) (.str b) = some (decide (b.cps.toList < a.cps.toList)) := (rfl)
@[simp] theorem bin_mul {p q : Int} : binD .Mult (.int p) (.int q) = if (-litI < p ∧ p < litI) ∨ (-litI < q ∧ q < litI) then some (.int (p * q), false) else none := (rfl)
@[simp] theorem bin_div {p q : Int} : binD .FloorDiv (.int p) (.int q) = if 0 < q ∧ q < wideI then some (.int (p / q), false) else none := (rfl)
@[simp] theorem bin_mod {p q : Int} : binD .Mod (.int p) (.int q) = if 0 < q then some (.int (p % q), false) else none := (rfl)
@[simp] theorem bin_and {p q : Int} : binD .BitAnd (.int p) (.int q) = some (.int (PySem.Builtin.bitAnd p q), false) := (rfl)
@[simp] theorem bin_or {p q : Int} : binD .BitOr (.int p) (.int q) = some (.int (PySem.Builtin.bitOr p q), false) := (rfl)
@[simp] theorem bin_xor {p q : Int} : binD .BitXor (.int p) (.int q) = some (.int (PySem.Builtin.bitXor p q), false) := (rfl)
@[simp] theorem bin_shl {p q : Int} : binD .LShift (.int p) (.int q) = if (0 ≤ q ∧ q ≤ 1000000) ∧ -litI < p ∧ p < litI then some (.int (p * 2 ^ q.toNat), false) else none := (rfl)
@[simp] theorem bin_shr {p q : Int} : binD .RShift (.int p) (.int q) = if 0 ≤ q then some (.int (p / 2 ^ q.toNat), false) else none := (rfl)
@[simp] theorem bin_addl {p q : List D} : binD .Add (.lst p) (.lst q) = if p.length + q.length ≤ sizeMax then some (.lst (p ++ q), true) else none := (rfl)
@[simp] theorem bin_addt {p q : List D} : binD .Add (.tup p) (.tup q) = if p.length + q.length ≤ sizeMax then some (.tup (p ++ q), false) else none := (rfl)
@[simp] theorem bin_adds {p q : Str} : binD .Add (.str p) (.str q) = if p.length + q.length ≤ sizeMax then some (.str (p ++ q), false) else none := (rfl)
@[simp] theorem subO_eq : subO [x, y] = (subD x y).map fun d => (d, false) := (rfl)
@[simp] theorem subD_lst {l : List D} {j : Int} : subD (.lst l) (.int j) = L2.atI l j := (rfl)
@[simp] theorem subD_tup {l : List D} {j : Int} : subD (.tup l) (.int j) = L2.atI l j := (rfl)
@[simp] theorem slcO0 : slcO 0 [x] = slcD x none none := (rfl)
@[simp] theorem slcO1 {j : Int} : slcO 1 [x, .int j] = slcD x (some j) none := (rfl)
@[simp] theorem slcO2 {j : Int} : slcO 2 [x, .int j] = slcD x none (some j) := (rfl)
@[simp] theorem slcO3 {j k : Int} : slcO 3 [x, .int j, .int k] = slcD x (some j) (some k) := (rfl)
@[simp] theorem slcD_lst {l : List D} {lo hi : Option Int} : slcD (.lst l) lo hi = some (.lst (cutL l lo hi), true) := (rfl)
@[simp] theorem slcD_tup {l : List D} {lo hi : Option Int} : slcD (.tup l) lo hi = some (.tup (cutL l lo hi), false) := (rfl)
@[simp] theorem cmpO_eq {op : CmpOp} : cmpO op s [x, y] = (der s x).bind fun x => (der s y).bind fun y => cmpD op x y := (rfl)
@[simp] theorem cmp_lt {p q : Int} : cmpD .Lt (.int p) (.int q) = some (decide (p < q)) := (rfl)
@[simp] theorem cmp_le {p q : Int} : cmpD .LtE (.int p) (.int q) = some (decide (p ≤ q)) := (rfl)
@[simp] theorem cmp_gt {p q : Int} : cmpD .Gt (.int p) (.int q) = some (decide (q < p)) := (rfl)
@[simp] theorem cmp_ge {p q : Int} : cmpD .GtE (.int p) (.int q) = some (decide (q ≤ p)) := (rfl)
@[simp] theorem fine_int {k : Nat} {p : Int} : (D.int p).fine k = true := by cases k <;> simp [D.fine]
@[simp] theorem fine_bool {k : Nat} {p : Bool} : (D.bool p).fine k = true := by cases k <;> simp [D.fine]
@[simp] theorem fine_none {k : Nat} : (D.none).fine k = true := by cases k <;> simp [D.fine]
@[simp] theorem fine_str {k : Nat} {p : Str} : (D.str p).fine k = p.cps.all (· < 0x110000) := by cases k <;> simp [D.fine]
@[simp] theorem cmp_eq {p q : Int} : cmpD .Eq (.int p) (.int q) = some (decide (p = q)) := by simp [cmpD, eqD, D.eqv]
@[simp] theorem cmp_ne {p q : Int} : cmpD .NotEq (.int p) (.int q) = some (!decide (p = q)) := by simp [cmpD, eqD, D.eqv]
@[simp] theorem cmp_eqb {p q : Bool} : cmpD .Eq (.bool p) (.bool q) = some (p == q) := by simp [cmpD, eqD, D.eqv]
@[simp] theorem cmp_neb {p q : Bool} : cmpD .NotEq (.bool p) (.bool q) = some (!(p == q)) := by simp [cmpD, eqD, D.eqv]
theorem ofString_inj {a b : String} : Str.ofString a = Str.ofString b ↔ a = b := by
  constructor
  · intro h
    rw [Str.ofString_eq_toList, Str.ofString_eq_toList] at h
    injection h with h
    have h : a.toList.map Char.toNat = b.toList.map Char.toNat := by simpa using h
    have inj : ∀ l m : List Char, l.map Char.toNat = m.map Char.toNat → l = m := by
      intro l
      induction l with
      | nil => intro m q; cases m <;> simp_all
      | cons x l ih =>
        intro m q
        cases m with
        | nil => simp at q
        | cons y m =>
          simp only [List.map_cons, List.cons.injEq] at q
          rw [Char.toNat_inj.mp q.1, ih m q.2]
    exact String.toList_injective (inj _ _ h)
  · rintro rfl; rfl
theorem ofString_fine {a : String} : (Str.ofString a).cps.all (· < 0x110000) = true := by
  rw [Str.ofString_eq_toList]
  simp only [List.size_toArray, List.length_map, List.all_toArray', List.all_map, List.all_eq_true, Function.comp]
  intro c _
  have := c.valid
  simp only [decide_eq_true_eq]
  have h : c.toNat < 0x110000 := by
    rcases this with h | ⟨_, h⟩
    · exact Nat.lt_trans h (by decide)
    · exact h
  exact h
@[simp] theorem cmp_eqs {a b : String} : cmpD .Eq (.str (Str.ofString a)) (.str (Str.ofString b)) = some (decide (a = b)) := by
  simp only [cmpD, eqD, D.eqv, fine_str, ofString_fine, Bool.and_self, if_true, ofString_inj]
@[simp] theorem cmp_nes {a b : String} : cmpD .NotEq (.str (Str.ofString a)) (.str (Str.ofString b)) = some (!decide (a = b)) := by
  simp only [cmpD, eqD, D.eqv, fine_str, ofString_fine, Bool.and_self, if_true, ofString_inj, Option.map_some]
@[simp] theorem cmp_is : cmpD .Is x .none = some x.isN := (rfl)
@[simp] theorem cmp_isn : cmpD .IsNot x .none = some (!x.isN) := (rfl)
@[simp] theorem cmp_isb_int {p : Int} {q : Bool} : cmpD .Is (.int p) (.bool q) = some false := (rfl)
@[simp] theorem cmp_isnb_int {p : Int} {q : Bool} : cmpD .IsNot (.int p) (.bool q) = some true := (rfl)
@[simp] theorem cmp_isb_str {p : Str} {q : Bool} : cmpD .Is (.str p) (.bool q) = some false := (rfl)
@[simp] theorem cmp_isnb_str {p : Str} {q : Bool} : cmpD .IsNot (.str p) (.bool q) = some true := (rfl)
@[simp] theorem cmp_isb_tup {p : List D} {q : Bool} : cmpD .Is (.tup p) (.bool q) = some false := (rfl)
@[simp] theorem cmp_isnb_tup {p : List D} {q : Bool} : cmpD .IsNot (.tup p) (.bool q) = some true := (rfl)
@[simp] theorem cmp_isb_lst {p : List D} {q : Bool} : cmpD .Is (.lst p) (.bool q) = some false := (rfl)
@[simp] theorem cmp_isnb_lst {p : List D} {q : Bool} : cmpD .IsNot (.lst p) (.bool q) = some true := (rfl)
@[simp] theorem cmp_isb_dic {p : List (D × D)} {q : Bool} : cmpD .Is (.dic p) (.bool q) = some false := (rfl)
@[simp] theorem cmp_isnb_dic {p : List (D × D)} {q : Bool} : cmpD .IsNot (.dic p) (.bool q) = some true := (rfl)
@[simp] theorem cmp_isb_none {q : Bool} : cmpD .Is .none (.bool q) = some false := (rfl)
@[simp] theorem cmp_isnb_none {q : Bool} : cmpD .IsNot .none (.bool q) = some true := (rfl)
@[simp] theorem cmp_isb_obj {c : Str} {l : List (Str × D)} {q : Bool} : cmpD .Is (.obj c l) (.bool q) = some false := (rfl)
@[simp] theorem cmp_isb {p q : Bool} : cmpD .Is (.bool p) (.bool q) = some (decide (p = q)) := (rfl)
@[simp] theorem cmp_isnb {p q : Bool} : cmpD .IsNot (.bool p) (.bool q) = some (!decide (p = q)) := (rfl)
@[simp] theorem isN_none : D.isN .none = true := (rfl)
@[simp] theorem isN_int {j : Int} : D.isN (.int j) = false := (rfl)
@[simp] theorem isN_str {j : Str} : D.isN (.str j) = false := (rfl)
@[simp] theorem isN_tup {j : List D} : D.isN (.tup j) = false := (rfl)
@[simp] theorem isN_lst {j : List D} : D.isN (.lst j) = false := (rfl)
@[simp] theorem blt_len {l : List D} : bltD .len [.lst l] = some (.int l.length, false) := (rfl)
@[simp] theorem blt_lent {l : List D} : bltD .len [.tup l] = some (.int l.length, false) := (rfl)
@[simp] theorem blt_lens {l : Str} : bltD .len [.str l] = if l.length ≤ sizeMax then some (.int l.length, false) else none := (rfl)
def absI (j : Int) : Int := if j < 0 then -j else j
theorem absI_nn (j : Int) : 0 ≤ absI j := by unfold absI; split <;> omega
theorem absI_pos {j : Int} (h : j ≠ 0) : 0 < absI j := by unfold absI; split <;> omega
@[simp] theorem blt_abs {j : Int} : bltD .abs [.int j] = some (.int (absI j), false) := (rfl)
@[simp] theorem blt_int {j : Int} : bltD .int [.int j] = some (.int j, false) := (rfl)
@[simp] theorem blt_list {l : List D} : bltD .list [.lst l] = some (.lst l, true) := (rfl)
@[simp] theorem blt_listt {l : List D} : bltD .list [.tup l] = some (.lst l, true) := (rfl)
@[simp] theorem blt_tuple {l : List D} : bltD .tuple [.lst l] = some (.tup l, false) := (rfl)
@[simp] theorem blt_tuplet {l : List D} : bltD .tuple [.tup l] = some (.tup l, false) := (rfl)
@[simp] theorem blt_max {j k : Int} : bltD .max [.int j, .int k] = some (.int (if k > j then k else j), false) := (rfl)
@[simp] theorem blt_min {j k : Int} : bltD .min [.int j, .int k] = some (.int (if k < j then k else j), false) := (rfl)
@[simp] theorem blt_isi {j : Int} : bltD .isi [.int j, .ty "int"] = some (.bool true, false) := (rfl)
@[simp] theorem blt_isb {j : Int} : bltD .isi [.int j, .ty "bool"] = some (.bool false, false) := (rfl)
@[simp] theorem blt_iss {j : Int} : bltD .isi [.int j, .ty "str"] = some (.bool false, false) := (rfl)
@[simp] theorem blt_isbb {j : Bool} : bltD .isi [.bool j, .ty "bool"] = some (.bool true, false) := (rfl)
@[simp] theorem blt_isbi {j : Bool} : bltD .isi [.bool j, .ty "int"] = some (.bool true, false) := (rfl)
@[simp] theorem blt_isss {j : Str} : bltD .isi [.str j, .ty "str"] = some (.bool true, false) := (rfl)
@[simp] theorem blt_istt {j : List D} : bltD .isi [.tup j, .ty "tuple"] = some (.bool true, false) := (rfl)
@[simp] theorem blt_isll {j : List D} : bltD .isi [.lst j, .ty "list"] = some (.bool true, false) := (rfl)
@[simp] theorem chg_app0 {l : List D} : chgD .append (.lst l) [x] = if l.length < sizeMax then some (.none, .lst (l ++ [x])) else none := (rfl)
@[simp] theorem chg_pop0 {l : List D} : chgD .pop (.lst l) [] = (l[l.length - 1]?).map fun y => (y, .lst l.dropLast) := (rfl)
@[simp] theorem blt_lend {l : List (D × D)} : bltD .len [.dic l] = some (.int l.length, false) := (rfl)
@[simp] theorem blt_listd {l : List (D × D)} : bltD .list [.dic l] = some (.lst (l.map (·.1)), true) := (rfl)
@[simp] theorem blt_dict {l : List (D × D)} : bltD .dict [.dic l] = some (.dic l, true) := (rfl)
@[simp] theorem blt_all {l : List D} : bltD .all [.lst l] = (blsD l).map fun bs => (.bool (bs.all id), false) := (rfl)
@[simp] theorem blt_any {l : List D} : bltD .any [.lst l] = (blsD l).map fun bs => (.bool (bs.any id), false) := (rfl)
@[simp] theorem blt_sum {l : List D} : bltD .sum [.lst l] = (intsD l).map fun is => (.int is.sum, false) := (rfl)
@[simp] theorem blt_sorted {l : List D} : bltD .sorted [.lst l] = (intsD l).map fun is => (.lst ((sortI is).map D.int), true) := (rfl)
@[simp] theorem blt_str {j : Int} : bltD .str [.int j] = if j.natAbs.log2 < 1920 then some (.str (toString j), false) else none := (rfl)
@[simp] theorem blt_strs {z : Str} : bltD .str [.str z] = some (.str z, false) := (rfl)
@[simp] theorem blsD_map {l : List Bool} : blsD (l.map D.bool) = some l := by induction l <;> simp_all [blsD]
@[simp] theorem intsD_map {l : List Int} : intsD (l.map D.int) = some l := by induction l <;> simp_all [intsD]
@[simp] theorem chg_ins {l : List D} {j : Int} : chgD .insert (.lst l) [.int j, x] = if l.length < sizeMax ∧ 0 ≤ j ∧ j < 2 ^ 63 then some (.none, .lst (l.take j.toNat ++ x :: l.drop j.toNat)) else none := (rfl)
@[simp] theorem chg_ext {l m : List D} : chgD .extend (.lst l) [.lst m] = if l.length + m.length ≤ sizeMax then some (.none, .lst (l ++ m)) else none := (rfl)
@[simp] theorem chg_extt {l m : List D} : chgD .extend (.lst l) [.tup m] = if l.length + m.length ≤ sizeMax then some (.none, .lst (l ++ m)) else none := (rfl)
@[simp] theorem chg_popK {l : List (D × D)} {k d : D} : chgD .pop (.dic l) [k, d] = if k.key then some (match lookK l k with
      | some v => (v, .dic (dropKD l k))
      | none => (d, .dic l)) else none := (rfl)
@[simp] theorem slcO_back {l : List D} : slcO 4 [.lst l] = some (.lst l.reverse, true) := (rfl)
@[simp] theorem blt_sortedK {l : List (D × D)} : bltD .sorted [.dic l] = (intsD (l.map (·.1))).bind fun is => if is.length ≤ sizeMax then some (.lst ((sortI is).map D.int), true) else none := (rfl)
@[simp] theorem chg_rev {l : List D} : chgD .reverse (.lst l) [] = some (.none, .lst l.reverse) := (rfl)
@[simp] theorem chg_dpop {l : List (D × D)} {k : D} : chgD .pop (.dic l) [k] = if k.key then (lookK l k).map fun v => (v, .dic (dropKD l k)) else none := (rfl)
theorem chg_popi {l : List D} {j : Int} : chgD .pop (.lst l) [.int j] = if -(2 ^ 63) ≤ j ∧ j < 2 ^ 63 then match L2.ixN l.length j with
      | some k => (l[k]?).map fun y => (y, .lst (l.eraseIdx k))
      | none => none
      else none := (rfl)
@[simp] theorem setD_dic {l : List (D × D)} {k : D} : setD (.dic l) k x = if k.key ∧ l.length < sizeMax then some (.dic (putKD l k x)) else none := by
  cases k <;> rfl
@[simp] theorem subD_dic {l : List (D × D)} {k : D} : subD (.dic l) k = if k.key then lookK l k else none := by
  cases k <;> rfl
@[simp] theorem setD_eq {l : List D} {k : Int} : setD (.lst l) (.int k) x = (L2.ixN l.length k).map fun j => .lst (l.set j x) := (rfl)
@[simp] theorem chgO_loc {f : D → Option (D × D)} : chgO f (.loc n) e s = match (s[n]?).bind f with
    | some (r, x') => .ok (r, false) e (s.set n x')
    | none => .no := rfl
@[simp] theorem chgS_eq {f : D → Option (D × D)} : chgS f i e s = match e[i]? with
  | some (.ow x) => match f x with
    | some (r, x') => .ok (r, false) (e.set i (.ow x')) s
    | none => .no
  | some (.fr (.loc n)) => match (s[n]?).bind f with
    | some (r, x') => .ok (r, false) e (s.set n x')
    | none => .no
  | _ => .no := rfl
@[simp] theorem itemsD_lst {l : List D} : itemsD (.lst l) = some l := (rfl)
@[simp] theorem itemsD_tup {l : List D} : itemsD (.tup l) = some l := (rfl)
theorem atI_nat {α : Type} {l : List α} {j : Int} (h : 0 ≤ j) : L2.atI l j = l[j.toNat]? := by
  unfold L2.atI L2.ixN
  rw [if_pos h]
  by_cases hl : j < l.length
  · rw [if_pos hl]; rfl
  · rw [if_neg hl, List.getElem?_eq_none (by omega)]; rfl
theorem ixN_nat {k : Nat} {j : Int} (h : 0 ≤ j) (hl : j < k) : L2.ixN k j = some j.toNat := by
  unfold L2.ixN
  rw [if_pos h, if_pos hl]
end
/-- what a def's flow gives -/
def outD : R O → Option (Rv × Sto)
  | .ok .nx _ s => some (.rt .none false, s)
  | .ok (.rt x w) _ s => some (.rt x w, s)
  | .ex x _ s => some (.rx x, s)
  | _ => none
theorem runD_out {B : Tab} {G : Glb} {d : Df} {ds : List D} {s : Sto} (h : ds.length = d.np) (h2 : d.np ≤ d.ns) : runD B G d ds s = outD (xL B G d.body (ds.map Sl.fr ++ List.replicate (d.ns - d.np) Sl.un) s) := by
  unfold runD
  rw [if_pos ⟨h, h2⟩]
  rfl
@[simp] theorem out_nx {e : En} {s : Sto} : outD (.ok .nx e s) = some (.rt .none false, s) := (rfl)
@[simp] theorem out_rt {x : D} {w : Bool} {e : En} {s : Sto} : outD (.ok (.rt x w) e s) = some (.rt x w, s) := (rfl)
@[simp] theorem out_ex {x : Xc} {e : En} {s : Sto} : outD (.ex x e s) = some (.rx x, s) := (rfl)
/-! ## the pool of digits, as every law has it -/
def pl (ns : List Int) (i v c : Int) : D := .lst [.lst (ns.map D.int), .int i, .int v, .int c]
def df_pool : Df := ⟨1, 1, (.cons (.ret (.lst true (.cons (.blt .list (.cons (.slc 2 (.cons (.var 0) (.cons (.int 63) .nil))) .nil)) (.cons (.int 0) (.cons (.int 0) (.cons (.int 11) .nil)))))) .nil)⟩
def dr_c : E := (.and (.cons (.cmp .Eq (.cons (.sub (.cons (.var 0) (.cons (.int 2) .nil))) (.cons (.int 0) .nil))) (.cons (.cmp .Lt (.cons (.sub (.cons (.var 0) (.cons (.int 1) .nil))) (.cons (.blt .len (.cons (.sub (.cons (.var 0) (.cons (.int 0) .nil))) .nil)) .nil))) .nil)))
def dr_b : Ss := (.cons (.set (.sbv 0 (.int 2)) (.blt .abs (.cons (.sub (.cons (.sub (.cons (.var 0) (.cons (.int 0) .nil))) (.cons (.sub (.cons (.var 0) (.cons (.int 1) .nil))) .nil))) .nil))) (.cons (.set (.sbv 0 (.int 1)) (.bin .Add (.cons (.sub (.cons (.var 0) (.cons (.int 1) .nil))) (.cons (.int 1) .nil)))) .nil))
def dr_r : Ss := (.cons (.ifs (.cmp .Eq (.cons (.sub (.cons (.var 0) (.cons (.int 2) .nil))) (.cons (.int 0) .nil))) (.cons (.set (.sbv 0 (.int 3)) (.bin .Add (.cons (.sub (.cons (.var 0) (.cons (.int 3) .nil))) (.cons (.int 7) .nil)))) (.cons (.ret (.bin .Mod (.cons (.blt .int (.cons (.bin .FloorDiv (.cons (.sub (.cons (.var 0) (.cons (.int 3) .nil))) (.cons (.int 3) .nil))) .nil)) (.cons (.var 1) .nil)))) .nil)) .nil) (.cons (.set (.nm 2) (.bin .Mod (.cons (.blt .int (.cons (.sub (.cons (.var 0) (.cons (.int 2) .nil))) .nil)) (.cons (.var 1) .nil)))) (.cons (.set (.sbv 0 (.int 2)) (.bin .FloorDiv (.cons (.blt .int (.cons (.sub (.cons (.var 0) (.cons (.int 2) .nil))) .nil)) (.cons (.var 1) .nil)))) (.cons (.ret (.var 2)) .nil))))
def df_draw : Df := ⟨2, 3, .cons (.whl dr_c dr_b) dr_r⟩
section
variable {B : Tab} {G : Glb} {s : Sto} {n : Nat} {ns : List Int} {i v c m : Int}
theorem pool_eq (h : ns.length ≤ 63) : runD B G df_pool [.lst (ns.map D.int)] s = some (.rt (.loc s.length) false, s ++ [pl ns 0 0 11]) := by
  have hc : cutL (ns.map D.int) none (some 63) = ns.map D.int := by
    have e1 : HT.sIx (ns.map D.int).length 0 none = 0 := rfl
    have e2 : HT.sIx (ns.map D.int).length (ns.map D.int).length (some 63) = ns.length := by
      have := HT.sIx_nat (ns.map D.int).length (ns.map D.int).length 63
      rw [show ((63 : Nat) : Int) = 63 from rfl] at this
      rw [this, List.length_map]; omega
    unfold cutL
    rw [e1, e2, List.drop_zero, Nat.sub_zero]
    exact List.take_of_length_le (by simp)
  simp [runD, df_pool, hc, sizeMax, pl]
theorem at0 {a b c d : D} : L2.atI [a, b, c, d] 0 = some a := rfl
theorem at1 {a b c d : D} : L2.atI [a, b, c, d] 1 = some b := rfl
theorem at2 {a b c d : D} : L2.atI [a, b, c, d] 2 = some c := rfl
theorem at3 {a b c d : D} : L2.atI [a, b, c, d] 3 = some d := rfl
theorem ix41 : L2.ixN 4 1 = some 1 := rfl
theorem ix42 : L2.ixN 4 2 = some 2 := rfl
theorem ix43 : L2.ixN 4 3 = some 3 := rfl
theorem draw_c (h : s[n]? = some (pl ns i v c)) : evB B G dr_c [.fr (.loc n), .fr (.int m), .un] s = .ok (decide (v = 0) && decide (i < ns.length)) [.fr (.loc n), .fr (.int m), .un] s := by
  by_cases hv : v = 0 <;> simp [dr_c, h, pl, at0, at1, at2, hv]
theorem draw_b (h : s[n]? = some (pl ns i v c)) (hi : 0 ≤ i) {y : Int} (hy : ns[i.toNat]? = some y) : xL B G dr_b [.fr (.loc n), .fr (.int m), .un] s = .ok .nx [.fr (.loc n), .fr (.int m), .un] (s.set n (pl ns (i + 1) (absI y) c)) := by
  obtain ⟨hn, hg⟩ := List.getElem?_eq_some_iff.mp h
  simp [dr_b, hg, pl, at0, at1, at2, ix41, ix42, atI_nat hi, hy, hn]
theorem draw_w : ∀ (f : Nat) (i v c : Int) (s : Sto), s[n]? = some (pl ns i v c) → 0 ≤ i → 0 ≤ v → ns.length - i.toNat < f → ∃ i' v', 0 ≤ i' ∧ 0 ≤ v' ∧
    whlL (cndW B G dr_c) (bodW B G dr_b) f [.fr (.loc n), .fr (.int m), .un] s = .ok .nx [.fr (.loc n), .fr (.int m), .un] (s.set n (pl ns i' v' c))
  | 0, i, v, c, s, h, hi, hv, hf => by omega
  | f + 1, i, v, c, s, h, hi, hv, hf => by
    rw [whlL_succ]
    show ∃ i' v', 0 ≤ i' ∧ 0 ≤ v' ∧ R.bind (evB B G dr_c _ s) _ = _
    rw [draw_c h, R.bind_ok, kWc_eq]
    have hn : n < s.length := (List.getElem?_eq_some_iff.mp h).1
    have hse : s.set n (pl ns i v c) = s := by
      obtain ⟨_, e⟩ := List.getElem?_eq_some_iff.mp h
      rw [← e, List.set_getElem_self]
    by_cases hc : v = 0 ∧ i < ns.length
    · rw [if_pos (by simp [hc])]
      have hl : i.toNat < ns.length := by omega
      have e := draw_b (B := B) (G := G) (m := m) h hi (List.getElem?_eq_getElem hl)
      rw [show bodW B G dr_b [.fr (.loc n), .fr (.int m), .un] s = _ from e, R.bind_ok, kWb_nx]
      obtain ⟨i', v', h1, h2, h3⟩ := draw_w f (i + 1) _ c (s.set n (pl ns (i + 1) (absI ns[i.toNat]) c)) (List.getElem?_set_self hn) (by omega) (absI_nn _) (by omega)
      refine ⟨i', v', h1, h2, ?_⟩
      rw [List.set_set] at h3
      exact h3
    · rw [if_neg (by simpa using hc)]
      exact ⟨i, v, hi, hv, by rw [hse]⟩
/-- a digit -/
theorem draw_eq (h : s[n]? = some (pl ns i v c)) (hi : 0 ≤ i) (hv : 0 ≤ v) (hc : 0 ≤ c) (hl : ns.length ≤ 63) (hm : 0 < m) (hm2 : m < wideI) : ∃ r i' v' c', runD B G df_draw [.loc n, .int m] s = some (.rt (.int r) false, s.set n (pl ns i' v' c')) ∧ 0 ≤ i' ∧ 0 ≤ v' ∧ 0 ≤ c' ∧ 0 ≤ r ∧ r < m := by
  obtain ⟨i', v', h1, h2, h3⟩ := draw_w (B := B) (G := G) (m := m) fuel i v c s h hi hv (by unfold fuel; omega)
  have hn : n < s.length := (List.getElem?_eq_some_iff.mp h).1
  have e : runD B G df_draw [.loc n, .int m] s = outD (xL B G dr_r [.fr (.loc n), .fr (.int m), .un] (s.set n (pl ns i' v' c))) := by
    rw [runD_out (by rfl) (by decide)]
    show outD (xL B G (.cons (.whl dr_c dr_b) dr_r) [.fr (.loc n), .fr (.int m), .un] s) = _
    rw [xL_cons, xS_whl, h3]
    rfl
  rw [e]
  have hw : (3 : Int) < wideI := by decide
  by_cases hz : v' = 0
  · refine ⟨(c + 7) / 3 % m, i', v', c + 7, ?_, h1, h2, by omega, Int.emod_nonneg _ (by omega), Int.emod_lt_of_pos _ hm⟩
    simp [dr_r, hn, pl, at2, at3, ix43, hz, hm, hw]
  · refine ⟨v' % m, i', v' / m, c, ?_, h1, Int.ediv_nonneg h2 (by omega), hc, Int.emod_nonneg _ (by omega), Int.emod_lt_of_pos _ hm⟩
    simp [dr_r, hn, pl, at2, at3, ix42, hz, hm, hm2]
end
end Pv
namespace Pv
/-- the pool in the n-th place of the store; all else as in s -/
def PA (n : Nat) (ns : List Int) (s s' : Sto) : Prop := n < s.length ∧ ns.length ≤ 63 ∧ ∃ i v c, 0 ≤ i ∧ 0 ≤ v ∧ 0 ≤ c ∧ s' = s.set n (pl ns i v c)
section
variable {B : Tab} {G : Glb} {s s' : Sto} {n : Nat} {ns : List Int} {m : Int}
theorem draw_pa (h : PA n ns s s') (hm : 0 < m) (hm2 : m < wideI) : ∃ r s2, runD B G df_draw [.loc n, .int m] s' = some (.rt (.int r) false, s2) ∧ PA n ns s s2 ∧ 0 ≤ r ∧ r < m := by
  obtain ⟨h1, h2, i, v, c, hi, hv, hc, rfl⟩ := h
  obtain ⟨r, i', v', c', e, a1, a2, a3, a4, a5⟩ := draw_eq (B := B) (G := G) (List.getElem?_set_self h1) hi hv hc h2 hm hm2
  exact ⟨r, _, e, ⟨h1, h2, i', v', c', a1, a2, a3, by rw [List.set_set]⟩, a4, a5⟩
theorem PA.new (h : ns.length ≤ 63) : PA s.length ns (s ++ [pl ns 0 0 11]) (s ++ [pl ns 0 0 11]) :=
  ⟨by simp, h, 0, 0, 11, by decide, by decide, by decide, by simp⟩
theorem PA.len (h : PA n ns s s') : s'.length = s.length := by
  obtain ⟨_, _, _, _, _, _, _, _, rfl⟩ := h
  simp
end
end Pv
namespace Pv
open PySem (Str Operator CmpOp)
/-! ## a drawn word, as the first laws have it -/
def df_word : Df := ⟨1, 3, (.cons (.set (.nm 1) (.call false "_law_draw" (.cons (.var 0) (.cons (.int 4) .nil)))) (.cons (.ifs (.cmp .Lt (.cons (.var 1) (.cons (.int 2) .nil))) (.cons (.ret (.bin .Sub (.cons (.call false "_law_draw" (.cons (.var 0) (.cons (.int 12) .nil))) (.cons (.int 4) .nil)))) .nil) .nil) (.cons (.set (.nm 2) (.lst false (.cons (.neg (.int 2147483648)) (.cons (.neg (.int 2147483647)) (.cons (.neg (.int 2049)) (.cons (.neg (.int 2048)) (.cons (.neg (.int 1)) (.cons (.int 0) (.cons (.int 1) (.cons (.int 31) (.cons (.int 32) (.cons (.int 33) (.cons (.int 2047) (.cons (.int 2048) (.cons (.int 4095) (.cons (.int 2147483647) .nil)))))))))))))))) (.cons (.ifs (.cmp .Eq (.cons (.var 1) (.cons (.int 2) .nil))) (.cons (.ret (.sub (.cons (.var 2) (.cons (.call false "_law_draw" (.cons (.var 0) (.cons (.int 14) .nil))) .nil)))) .nil) .nil) (.cons (.ret (.bin .Sub (.cons (.call false "_law_draw" (.cons (.var 0) (.cons (.int 4294967296) .nil))) (.cons (.int 2147483648) .nil)))) .nil)))))⟩
theorem at_ints {L : List Int} {j : Int} (h : 0 ≤ j) (hl : j < L.length) : ∃ x ∈ L, L2.atI (L.map D.int) j = some (.int x) := by
  have : j.toNat < L.length := by omega
  refine ⟨L[j.toNat], List.getElem_mem this, ?_⟩
  rw [atI_nat h, List.getElem?_map, List.getElem?_eq_getElem this]
  rfl
theorem small_w {m : Int} (h : m ≤ 1000000000000000000000000000000) : m < wideI := by unfold wideI; omega
section
variable {B B' : Tab} {G G' : Glb} {s s' : Sto} {n : Nat} {ns : List Int}
theorem word_pa (hB : B "_law_draw" = runD B' G' df_draw) (h : PA n ns s s') : ∃ r s2, runD B G df_word [.loc n] s' = some (.rt (.int r) false, s2) ∧ PA n ns s s2 ∧ -2147483648 ≤ r ∧ r ≤ 2147483647 := by
  obtain ⟨kind, s1, e1, p1, a1, b1⟩ := draw_pa (B := B') (G := G') h (m := 4) (by decide) (small_w (by decide))
  rw [← hB] at e1
  by_cases c0 : kind < 2
  · obtain ⟨r, s2, e2, p2, a2, b2⟩ := draw_pa (B := B') (G := G') p1 (m := 12) (by decide) (small_w (by decide))
    rw [← hB] at e2
    exact ⟨r - 4, s2, by rw [runD_out rfl (by decide)]; simp [df_word, e1, e2, c0], p2, by omega, by omega⟩
  by_cases c2 : kind = 2
  · obtain ⟨r, s2, e2, p2, a2, b2⟩ := draw_pa (B := B') (G := G') p1 (m := 14) (by decide) (small_w (by decide))
    rw [← hB] at e2
    obtain ⟨x, hx, ex⟩ := at_ints (L := [-2147483648, -2147483647, -2049, -2048, -1, 0, 1, 31, 32, 33, 2047, 2048, 4095, 2147483647]) a2 b2
    have hb := (by decide : ∀ x ∈ [-2147483648, -2147483647, -2049, -2048, -1, 0, 1, 31, 32, 33, 2047, 2048, 4095, (2147483647 : Int)], -2147483648 ≤ x ∧ x ≤ 2147483647) x hx
    simp at ex
    exact ⟨x, s2, by rw [runD_out rfl (by decide)]; simp [df_word, e1, e2, c2, ex, sizeMax], p2, hb.1, hb.2⟩
  · obtain ⟨r, s2, e2, p2, a2, b2⟩ := draw_pa (B := B') (G := G') p1 (m := 4294967296) (by decide) (small_w (by decide))
    rw [← hB] at e2
    exact ⟨r - 2147483648, s2, by rw [runD_out rfl (by decide)]; simp [df_word, e1, e2, c0, c2, sizeMax], p2, by omega, by omega⟩
end
end Pv
namespace Pv
open PySem PySem.W PyProof.Rows
/-! ## bits -/
theorem and_half (x y : Int) : Builtin.bitAnd x y / 2 = Builtin.bitAnd (x / 2) (y / 2) := by
  have := kbt_halves x y
  split at this <;> omega
theorem and_low (x y : Int) : Builtin.bitAnd x y % 2 = if x % 2 = 1 ∧ y % 2 = 1 then 1 else 0 := by
  have := kbt_halves x y
  split at this <;> omega
theorem or_half (x y : Int) : Builtin.bitOr x y / 2 = Builtin.bitOr (x / 2) (y / 2) := by
  have h := kbt_halves x y
  have e1 := bitOr_and x y
  have e2 := bitOr_and (x / 2) (y / 2)
  split at h <;> omega
theorem or_lowb (x y : Int) : Builtin.bitOr x y % 2 = if x % 2 = 1 ∨ y % 2 = 1 then 1 else 0 := by
  have h := kbt_halves x y
  have e1 := bitOr_and x y
  split at h <;> split <;> omega
theorem xor_half (x y : Int) : Builtin.bitXor x y / 2 = Builtin.bitXor (x / 2) (y / 2) := by
  have h := kbt_halves x y
  have e1 := bitXor_and x y
  have e2 := bitXor_and (x / 2) (y / 2)
  split at h <;> omega
theorem xor_low (x y : Int) : Builtin.bitXor x y % 2 = (x % 2 + y % 2) % 2 := by
  have h := kbt_halves x y
  have e1 := bitXor_and x y
  split at h <;> omega
theorem bits_in {f : Int → Int → Int} (h : ∀ x y, f x y / 2 = f (x / 2) (y / 2)) (h0 : ∀ x y, (x = -1 ∨ x = 0) → (y = -1 ∨ y = 0) → f x y = -1 ∨ f x y = 0) : ∀ (k : Nat) (x y : Int), -(2 ^ k : Int) ≤ x → x < 2 ^ k → -(2 ^ k : Int) ≤ y → y < 2 ^ k → -(2 ^ k : Int) ≤ f x y ∧ f x y < 2 ^ k
  | 0, x, y, a, b, c, d => by
    have := h0 x y (by simp at a b; omega) (by simp at c d; omega)
    simp; omega
  | k + 1, x, y, a, b, c, d => by
    rw [Int.pow_succ] at *
    have := bits_in h h0 k (x / 2) (y / 2) (by omega) (by omega) (by omega) (by omega)
    have := h x y
    omega
theorem and_word {x y : Int} (a : -2147483648 ≤ x) (b : x ≤ 2147483647) (c : -2147483648 ≤ y) (d : y ≤ 2147483647) : -2147483648 ≤ Builtin.bitAnd x y ∧ Builtin.bitAnd x y ≤ 2147483647 := by
  have := bits_in and_half (by rintro x y (rfl | rfl) (rfl | rfl) <;> decide) 31 x y (by omega) (by omega) (by omega) (by omega)
  omega
theorem or_word {x y : Int} (a : -2147483648 ≤ x) (b : x ≤ 2147483647) (c : -2147483648 ≤ y) (d : y ≤ 2147483647) : -2147483648 ≤ Builtin.bitOr x y ∧ Builtin.bitOr x y ≤ 2147483647 := by
  have := bits_in or_half (by rintro x y (rfl | rfl) (rfl | rfl) <;> decide) 31 x y (by omega) (by omega) (by omega) (by omega)
  omega
theorem xor_word {x y : Int} (a : -2147483648 ≤ x) (b : x ≤ 2147483647) (c : -2147483648 ≤ y) (d : y ≤ 2147483647) : -2147483648 ≤ Builtin.bitXor x y ∧ Builtin.bitXor x y ≤ 2147483647 := by
  have := bits_in xor_half (by rintro x y (rfl | rfl) (rfl | rfl) <;> decide) 31 x y (by omega) (by omega) (by omega) (by omega)
  omega
theorem sar_word {x : Int} {k : Nat} (a : -2147483648 ≤ x) (b : x ≤ 2147483647) : -2147483648 ≤ x / 2 ^ k ∧ x / 2 ^ k ≤ 2147483647 := by
  have hp : (0 : Int) < 2 ^ k := Int.pow_pos (by decide)
  refine ⟨(Int.le_ediv_iff_mul_le hp).mpr ?_, ?_⟩
  · have : (1 : Int) ≤ 2 ^ k := hp
    have : -2147483648 * (2 : Int) ^ k ≤ -2147483648 * 1 := Int.mul_le_mul_of_nonpos_left (by decide) this
    omega
  · by_cases hx : 0 ≤ x
    · exact Int.le_trans (Int.ediv_le_self _ hx) b
    · have : x / 2 ^ k < 0 := Int.ediv_neg_of_neg_of_pos (by omega) hp
      omega
end Pv
namespace Pv
open PySem (Str Operator CmpOp)
/-! ## loops and comprehensions, native lists -/
section
variable {s : Sto} {τ α : Type}
/-- a loop that looks for the first -/
theorem loop_find {f : D → En → Sto → R O} {g : α → D} {p : α → Bool} {r : α → D} (E : τ → En) : ∀ (xs : List α) (q : τ),
    (∀ x ∈ xs, ∀ q, ∃ q', f (g x) (E q) s = if p x then .ok (.rt (r x) false) (E q') s else .ok .nx (E q') s) →
    ∃ q', forL f (xs.map g) (E q) s = match xs.find? p with
      | some x => .ok (.rt (r x) false) (E q') s
      | none => .ok .nx (E q') s
  | [], q, _ => ⟨q, rfl⟩
  | x :: xs, q, h => by
    obtain ⟨q', e1⟩ := h x (by simp) q
    rw [List.map_cons, forL_cons, e1, List.find?_cons]
    cases hp : p x with
    | true => exact ⟨q', rfl⟩
    | false =>
      obtain ⟨q2, e2⟩ := loop_find E xs q' fun y hy => h y (by simp [hy])
      exact ⟨q2, e2⟩
/-- a loop that goes through -/
theorem loop_all {f : D → En → Sto → R O} (E : τ → En) : ∀ (xs : List D) (q : τ),
    (∀ x ∈ xs, ∀ q, ∃ q', f x (E q) s = .ok .nx (E q') s ∨ f x (E q) s = .ok .ct (E q') s) → ∃ q', forL f xs (E q) s = .ok .nx (E q') s
  | [], q, _ => ⟨q, rfl⟩
  | x :: xs, q, h => by
    obtain ⟨q', e1⟩ := h x (by simp) q
    obtain ⟨q2, e2⟩ := loop_all E xs q' fun y hy => h y (by simp [hy])
    rw [forL_cons]
    rcases e1 with e1 | e1 <;> rw [e1] <;> exact ⟨q2, e2⟩
/-- a loop with its state -/
theorem loop_run {f : D → En → Sto → R O} (E : τ → En) (P : Nat → τ → Sto → Prop) : ∀ (xs : List D) (j : Nat) (q : τ) (s : Sto), P j q s →
    (∀ i x, xs[i]? = some x → ∀ q s, P (j + i) q s → ∃ q' s', (f x (E q) s = .ok .nx (E q') s' ∨ f x (E q) s = .ok .ct (E q') s') ∧ P (j + i + 1) q' s') → ∃ q' s', forL f xs (E q) s = .ok .nx (E q') s' ∧ P (j + xs.length) q' s'
  | [], j, q, s, h, _ => ⟨q, s, rfl, h⟩
  | x :: xs, j, q, s, h, st => by
    obtain ⟨q1, s1, e1, h1⟩ := st 0 x rfl q s h
    obtain ⟨q2, s2, e2, h2⟩ := loop_run E P xs (j + 1) q1 s1 h1 fun i y hy q s hp => by
      have := st (i + 1) y (by simpa using hy) q s (by rwa [show j + (i + 1) = j + 1 + i by omega])
      rwa [show j + (i + 1) + 1 = j + 1 + i + 1 by omega] at this
    refine ⟨q2, s2, ?_, by rwa [List.length_cons, show j + (xs.length + 1) = j + 1 + xs.length by omega]⟩
    rw [forL_cons]
    rcases e1 with e1 | e1 <;> rw [e1] <;> exact e2
/-- .. over native things -/
theorem loop_runG {f : D → En → Sto → R O} {g : α → D} (E : τ → En) (P : List α → τ → Sto → Prop) : ∀ (xs done : List α) (q : τ) (s : Sto), P done q s →
    (∀ done x rest, xs = done ++ x :: rest → True) →
    (∀ d x, x ∈ xs → ∀ q s, P d q s → ∃ q' s', (f (g x) (E q) s = .ok .nx (E q') s' ∨ f (g x) (E q) s = .ok .ct (E q') s') ∧ P (d ++ [x]) q' s') → ∃ q' s', forL f (xs.map g) (E q) s = .ok .nx (E q') s' ∧ P (done ++ xs) q' s'
  | [], done, q, s, h, _, _ => ⟨q, s, rfl, by simpa using h⟩
  | x :: xs, done, q, s, h, tt, st => by
    obtain ⟨q1, s1, e1, h1⟩ := st done x (by simp) q s h
    obtain ⟨q2, s2, e2, h2⟩ := loop_runG E P xs (done ++ [x]) q1 s1 h1 (fun _ _ _ _ => trivial) fun d y hy => st d y (by simp [hy])
    refine ⟨q2, s2, ?_, by simpa using h2⟩
    rw [List.map_cons, forL_cons]
    rcases e1 with e1 | e1 <;> rw [e1] <;> exact e2
/-- a comprehension without draws -/
theorem comp_pure {f : D → En → Sto → R (Option D)} {g : α → D} {p : α → Bool} {r : α → D} {e : En} : ∀ (xs : List α) (acc : List D),
    (∀ x ∈ xs, f (g x) e s = .ok (if p x then some (r x) else none) e s) → acc.length + xs.length ≤ sizeMax → compL f (xs.map g) acc e s = .ok (acc ++ (xs.filter p).map r) e s
  | [], acc, _, _ => by simp
  | x :: xs, acc, h, hl => by
    rw [List.map_cons, compL_cons, h x (by simp), List.filter_cons]
    simp only [List.length_cons] at hl
    cases hp : p x with
    | true =>
      rw [if_pos rfl, if_pos rfl, R.bind_ok, kCmL_some, if_pos (by omega), comp_pure xs (acc ++ [r x]) (fun y hy => h y (by simp [hy])) (by simp; omega)]
      simp
    | false =>
      rw [if_neg (by decide), if_neg (by decide), R.bind_ok, kCmL_none, comp_pure xs acc (fun y hy => h y (by simp [hy])) (by omega)]
theorem comp_map {f : D → En → Sto → R (Option D)} {g : α → D} {r : α → D} {e : En} (xs : List α) (h : ∀ x ∈ xs, f (g x) e s = .ok (some (r x)) e s) (hl : xs.length ≤ sizeMax) : compL f (xs.map g) [] e s = .ok (xs.map r) e s := by
  have := comp_pure (s := s) (f := f) (g := g) (e := e) (p := fun _ => true) (r := r) xs [] (fun x hx => by rw [h x hx]; rfl) (by simpa using hl)
  rw [this, List.filter_eq_self.mpr (fun _ _ => rfl)]; rfl
/-- a comprehension that draws -/
theorem comp_draw {f : D → En → Sto → R (Option D)} {I : Sto → Prop} {P : D → Prop} {e : En} : ∀ (xs acc : List D) (s : Sto), (∀ x ∈ xs, ∀ s, I s → ∃ d s', f x e s = .ok (some d) e s' ∧ I s' ∧ P d) → I s → acc.length + xs.length ≤ sizeMax →
    ∃ ds s', compL f xs acc e s = .ok (acc ++ ds) e s' ∧ I s' ∧ ds.length = xs.length ∧ ∀ d ∈ ds, P d
  | [], acc, s, _, h, _ => ⟨[], s, by simp, h, rfl, by simp⟩
  | x :: xs, acc, s, st, h, hl => by
    simp only [List.length_cons] at hl
    obtain ⟨d, s1, e1, h1, p1⟩ := st x (by simp) s h
    obtain ⟨ds, s2, e2, h2, l2, p2⟩ := comp_draw xs (acc ++ [d]) s1 (fun y hy => st y (by simp [hy])) h1 (by simp; omega)
    refine ⟨d :: ds, s2, ?_, h2, by simp [l2], fun z hz => ?_⟩
    · rw [compL_cons, e1, R.bind_ok, kCmL_some, if_pos (by omega), e2]; simp
    · rcases List.mem_cons.mp hz with rfl | hz
      · exact p1
      · exact p2 z hz
/-- things of a kind, natively -/
theorem list_of {β : Type} {g : β → D} {Q : β → Prop} : ∀ ds : List D, (∀ d ∈ ds, ∃ b, d = g b ∧ Q b) → ∃ bs : List β, ds = bs.map g ∧ ∀ b ∈ bs, Q b
  | [], _ => ⟨[], rfl, by simp⟩
  | d :: ds, h => by
    obtain ⟨b, rfl, hb⟩ := h d (by simp)
    obtain ⟨bs, rfl, hbs⟩ := list_of ds fun x hx => h x (by simp [hx])
    exact ⟨b :: bs, rfl, by simpa using ⟨hb, hbs⟩⟩
theorem rangeL_map (a b : Int) : rangeL a b = ((List.range (b - a).toNat).map fun i => a + (i : Nat)).map D.int := by
  unfold rangeL; rw [List.map_map]; rfl
/-- the ints from a on -/
def rgI (a b : Int) : List Int := (List.range (b - a).toNat).map fun i => a + (i : Nat)
theorem rangeL_eq (a b : Int) : rangeL a b = (rgI a b).map D.int := rangeL_map a b
theorem mem_rgI {a b x : Int} : x ∈ rgI a b ↔ a ≤ x ∧ x < b := by
  unfold rgI
  simp only [List.mem_map, List.mem_range]
  constructor
  · rintro ⟨i, hi, rfl⟩; omega
  · intro h; exact ⟨(x - a).toNat, by omega, by omega⟩
theorem rgI_len (a b : Int) : (rgI a b).length = (b - a).toNat := by simp [rgI]
theorem atI_int {l : List Int} {i : Int} (h0 : 0 ≤ i) (h1 : i < l.length) : L2.atI (l.map D.int) i = some (.int (l.getD i.toNat 0)) := by
  have : i.toNat < l.length := by omega
  rw [atI_nat h0, List.getElem?_map, List.getElem?_eq_getElem this, List.getD_eq_getElem?_getD, List.getElem?_eq_getElem this]
  rfl
@[simp] theorem fineL_ints {k : Nat} {l : List Int} : fineL k (l.map D.int) = true := by induction l <;> simp_all [fineL]
theorem nolL_map {β : Type} {g : β → D} (h : ∀ b, (g b).nol = true) : ∀ l : List β, nolL (l.map g) = true
  | [] => rfl
  | b :: l => by simp [nolL, h b, nolL_map h l]
theorem immL_map {β : Type} {g : β → D} (h : ∀ b, (g b).imm = true) : ∀ l : List β, immL (l.map g) = true
  | [] => rfl
  | b :: l => by simp [immL, h b, immL_map h l]
theorem fineL_map {β : Type} {g : β → D} {k : Nat} (h : ∀ b, (g b).fine k = true) : ∀ l : List β, fineL k (l.map g) = true
  | [] => by simp [fineL]
  | b :: l => by simp [fineL, h b, fineL_map h l]
theorem memD_map {β : Type} [DecidableEq β] {g : β → D} (hf : ∀ b, (g b).fine 64 = true) (he : ∀ a b, (g a).eqv (g b) = decide (a = b)) (x : β) (l : List β) : memD (g x) (l.map g) = some (decide (x ∈ l)) := by
  unfold memD
  rw [hf, fineL_map hf, Bool.and_self, if_pos rfl, List.any_map]
  congr 1
  rw [Bool.eq_iff_iff]
  simp [he]
/-- a loop that appends -/
theorem loop_app {β : Type} {f : D → En → Sto → R O} {g : α → D} {mk : α → List β} (E : List β → τ → En) : ∀ (xs : List α) (qs : List β) (q : τ),
    (∀ x ∈ xs, ∀ qs q, qs.length + (mk x).length ≤ sizeMax → ∃ q', f (g x) (E qs q) s = .ok .nx (E (qs ++ mk x) q') s) → qs.length + (xs.flatMap mk).length ≤ sizeMax → ∃ q', forL f (xs.map g) (E qs q) s = .ok .nx (E (qs ++ xs.flatMap mk) q') s
  | [], qs, q, _, _ => ⟨q, by simp⟩
  | x :: xs, qs, q, h, hl => by
    rw [List.flatMap_cons, List.length_append] at hl
    obtain ⟨q1, e1⟩ := h x (by simp) qs q (by omega)
    obtain ⟨q2, e2⟩ := loop_app E xs (qs ++ mk x) q1 (fun y hy => h y (by simp [hy])) (by rw [List.length_append]; omega)
    exact ⟨q2, by rw [List.map_cons, forL_cons, e1, R.bind_ok, kTn_nx, e2, List.flatMap_cons, List.append_assoc]⟩
theorem memD_map' (x : Int) (l : List Int) : memD (.int x) (l.map D.int) = some (decide (x ∈ l)) := by
  unfold memD
  rw [fine_int, if_pos (by simp), List.any_map]
  congr 1
  rw [Bool.eq_iff_iff]
  simp [D.eqv]
/-- a loop that folds -/
theorem loop_fold {f : D → En → Sto → R O} {g : α → D} {step : τ → α → τ} (E : τ → En) : ∀ (xs : List α) (q : τ), (∀ x ∈ xs, ∀ q, f (g x) (E q) s = .ok .nx (E (step q x)) s) → forL f (xs.map g) (E q) s = .ok .nx (E (xs.foldl step q)) s
  | [], _, _ => rfl
  | x :: xs, q, h => by rw [List.map_cons, forL_cons, h x (by simp) q, R.bind_ok, kTn_nx, loop_fold E xs _ (fun y hy => h y (by simp [hy])), List.foldl_cons]
theorem in_intsT (x : Int) (l : List Int) : cmpD .In (.int x) (.tup (l.map D.int)) = some (decide (x ∈ l)) := memD_map' x l
theorem nin_intsT (x : Int) (l : List Int) : cmpD .NotIn (.int x) (.tup (l.map D.int)) = some (!decide (x ∈ l)) := by
  show (memD (.int x) (l.map D.int)).map (!·) = _
  rw [memD_map' x l]; rfl
theorem fm1 {β : Type} {g : α → β} (l : List α) : (l.flatMap fun a => [g a]) = l.map g := by induction l <;> simp_all
theorem loop_app1 {β : Type} {f : D → En → Sto → R O} {g : α → D} {mk : α → β} (E : List β → τ → En) (xs : List α) (qs : List β) (q : τ)
    (h : ∀ x ∈ xs, ∀ qs q, qs.length < sizeMax → ∃ q', f (g x) (E qs q) s = .ok .nx (E (qs ++ [mk x]) q') s) (hl : qs.length + xs.length ≤ sizeMax) : ∃ q', forL f (xs.map g) (E qs q) s = .ok .nx (E (qs ++ xs.map mk) q') s := by
  have := loop_app (s := s) (f := f) (g := g) (mk := fun x => [mk x]) E xs qs q (fun x hx qs q hq => h x hx qs q (by simp at hq; omega)) (by rw [fm1]; simpa using hl)
  rwa [fm1] at this
@[simp] theorem sameK_ss {a b : String} : sameK (.str (Str.ofString a)) (.str (Str.ofString b)) = decide (a = b) := by
  show decide (Str.ofString a = Str.ofString b) = _
  simp only [ofString_inj]
@[simp] theorem strall {a : String} : (Str.ofString a).cps.all (· < 0x110000) = true := ofString_fine
@[simp] theorem at_c0 {x0 : α} {l : List α} : L2.atI (x0 :: l) 0 = some x0 := by
  rw [atI_nat (by decide)]; rfl
@[simp] theorem at_c1 {x0 x1 : α} {l : List α} : L2.atI (x0 :: x1 :: l) 1 = some x1 := by
  rw [atI_nat (by decide)]; rfl
@[simp] theorem at_c2 {x0 x1 x2 : α} {l : List α} : L2.atI (x0 :: x1 :: x2 :: l) 2 = some x2 := by
  rw [atI_nat (by decide)]; rfl
@[simp] theorem at_c3 {x0 x1 x2 x3 : α} {l : List α} : L2.atI (x0 :: x1 :: x2 :: x3 :: l) 3 = some x3 := by
  rw [atI_nat (by decide)]; rfl
@[simp] theorem at_c4 {x0 x1 x2 x3 x4 : α} {l : List α} : L2.atI (x0 :: x1 :: x2 :: x3 :: x4 :: l) 4 = some x4 := by
  rw [atI_nat (by decide)]; rfl
@[simp] theorem at_c5 {x0 x1 x2 x3 x4 x5 : α} {l : List α} : L2.atI (x0 :: x1 :: x2 :: x3 :: x4 :: x5 :: l) 5 = some x5 := by
  rw [atI_nat (by decide)]; rfl
end
end Pv
namespace Lk60
open PySem PySem.Spec PyProof.Rows L2 Pv
theorem sc_Object_init : FnScope ns_Object_init ["self", "words", "functions", "data", "needs", "places", "marks"] (defScope sx_Object_init) := ⟨rfl, rfl, rfl, by decide +kernel, rfl, by decide +kernel, by decide +kernel⟩
theorem ck_Object_init : ckSs (ckOf ns_Object_init dnl ct (defScope sx_Object_init)) df_Object_init.body (defBody sx_Object_init) = true := by decide +kernel
theorem sc_Object_parts : FnScope ns_Object_parts ["self"] (defScope sx_Object_parts) := ⟨rfl, rfl, rfl, by decide +kernel, rfl, by decide +kernel, by decide +kernel⟩
theorem ck_Object_parts : ckSs (ckOf ns_Object_parts dnl ct (defScope sx_Object_parts)) df_Object_parts.body (defBody sx_Object_parts) = true := by decide +kernel
theorem sc_Object_size : FnScope ns_Object_size ["self"] (defScope sx_Object_size) := ⟨rfl, rfl, rfl, by decide +kernel, rfl, by decide +kernel, by decide +kernel⟩
theorem ck_Object_size : ckSs (ckOf ns_Object_size dnl ct (defScope sx_Object_size)) df_Object_size.body (defBody sx_Object_size) = true := by decide +kernel
theorem sc_Object__add : FnScope ns_Object__add ["self", "other"] (defScope sx_Object__add) := ⟨rfl, rfl, rfl, by decide +kernel, rfl, by decide +kernel, by decide +kernel⟩
theorem ck_Object__add : ckSs (ckOf ns_Object__add dnl ct (defScope sx_Object__add)) df_Object__add.body (defBody sx_Object__add) = true := by decide +kernel
theorem sc_law_pool : FnScope ns_law_pool ["_law_script"] (defScope sx_law_pool) := ⟨rfl, rfl, rfl, by decide +kernel, rfl, by decide +kernel, by decide +kernel⟩
theorem ck_law_pool : ckSs (ckOf ns_law_pool dnl ct (defScope sx_law_pool)) df_law_pool.body (defBody sx_law_pool) = true := by decide +kernel
theorem sc_law_draw : FnScope ns_law_draw ["_law_pool_here", "_law_many_here"] (defScope sx_law_draw) := ⟨rfl, rfl, rfl, by decide +kernel, rfl, by decide +kernel, by decide +kernel⟩
theorem ck_law_draw : ckSs (ckOf ns_law_draw dnl ct (defScope sx_law_draw)) df_law_draw.body (defBody sx_law_draw) = true := by decide +kernel
theorem sc_law_pick : FnScope ns_law_pick ["_law_pool_here", "_law_things"] (defScope sx_law_pick) := ⟨rfl, rfl, rfl, by decide +kernel, rfl, by decide +kernel, by decide +kernel⟩
theorem ck_law_pick : ckSs (ckOf ns_law_pick dnl ct (defScope sx_law_pick)) df_law_pick.body (defBody sx_law_pick) = true := by decide +kernel
theorem sc_law_word : FnScope ns_law_word ["_law_pool_here"] (defScope sx_law_word) := ⟨rfl, rfl, rfl, by decide +kernel, rfl, by decide +kernel, by decide +kernel⟩
theorem ck_law_word : ckSs (ckOf ns_law_word dnl ct (defScope sx_law_word)) df_law_word.body (defBody sx_law_word) = true := by decide +kernel
theorem sc_law_alike : FnScope ns_law_alike ["_law_a", "_law_b"] (defScope sx_law_alike) := ⟨rfl, rfl, rfl, by decide +kernel, rfl, by decide +kernel, by decide +kernel⟩
theorem ck_law_alike : ckSs (ckOf ns_law_alike dnl ct (defScope sx_law_alike)) df_law_alike.body (defBody sx_law_alike) = true := by decide +kernel
theorem sc_law_table : FnScope ns_law_table [] (defScope sx_law_table) := ⟨rfl, rfl, rfl, by decide +kernel, rfl, by decide +kernel, by decide +kernel⟩
theorem ck_law_table : ckSs (ckOf ns_law_table dnl ct (defScope sx_law_table)) df_law_table.body (defBody sx_law_table) = true := by decide +kernel
theorem sc_law_encoded : FnScope ns_law_encoded ["_law_table_here", "_law_row"] (defScope sx_law_encoded) := ⟨rfl, rfl, rfl, by decide +kernel, rfl, by decide +kernel, by decide +kernel⟩
theorem ck_law_encoded : ckSs (ckOf ns_law_encoded dnl ct (defScope sx_law_encoded)) df_law_encoded.body (defBody sx_law_encoded) = true := by decide +kernel
theorem sc_law_edge : FnScope ns_law_edge ["_law_pool_here", "_law_least", "_law_greatest"] (defScope sx_law_edge) := ⟨rfl, rfl, rfl, by decide +kernel, rfl, by decide +kernel, by decide +kernel⟩
theorem ck_law_edge : ckSs (ckOf ns_law_edge dnl ct (defScope sx_law_edge)) df_law_edge.body (defBody sx_law_edge) = true := by decide +kernel
theorem sc_law_drawn_row : FnScope ns_law_drawn_row ["_law_pool_here", "_law_table_here"] (defScope sx_law_drawn_row) := ⟨rfl, rfl, rfl, by decide +kernel, rfl, by decide +kernel, by decide +kernel⟩
theorem ck_law_drawn_row : ckSs (ckOf ns_law_drawn_row dnl ct (defScope sx_law_drawn_row)) df_law_drawn_row.body (defBody sx_law_drawn_row) = true := by decide +kernel
theorem sc_law_title : FnScope ns_law_title ["_law_pool_here"] (defScope sx_law_title) := ⟨rfl, rfl, rfl, by decide +kernel, rfl, by decide +kernel, by decide +kernel⟩
theorem ck_law_title : ckSs (ckOf ns_law_title dnl ct (defScope sx_law_title)) df_law_title.body (defBody sx_law_title) = true := by decide +kernel
theorem sc_law_many : FnScope ns_law_many ["_law_pool_here"] (defScope sx_law_many) := ⟨rfl, rfl, rfl, by decide +kernel, rfl, by decide +kernel, by decide +kernel⟩
theorem ck_law_many : ckSs (ckOf ns_law_many dnl ct (defScope sx_law_many)) df_law_many.body (defBody sx_law_many) = true := by decide +kernel
theorem sc_law_long : FnScope ns_law_long ["_law_pool_here"] (defScope sx_law_long) := ⟨rfl, rfl, rfl, by decide +kernel, rfl, by decide +kernel, by decide +kernel⟩
theorem ck_law_long : ckSs (ckOf ns_law_long dnl ct (defScope sx_law_long)) df_law_long.body (defBody sx_law_long) = true := by decide +kernel
theorem sc_law_want : FnScope ns_law_want ["_law_pool_here"] (defScope sx_law_want) := ⟨rfl, rfl, rfl, by decide +kernel, rfl, by decide +kernel, by decide +kernel⟩
theorem ck_law_want : ckSs (ckOf ns_law_want dnl ct (defScope sx_law_want)) df_law_want.body (defBody sx_law_want) = true := by decide +kernel
theorem sc_law_datum : FnScope ns_law_datum ["_law_pool_here"] (defScope sx_law_datum) := ⟨rfl, rfl, rfl, by decide +kernel, rfl, by decide +kernel, by decide +kernel⟩
theorem ck_law_datum : ckSs (ckOf ns_law_datum dnl ct (defScope sx_law_datum)) df_law_datum.body (defBody sx_law_datum) = true := by decide +kernel
theorem sc_law_chain : FnScope ns_law_chain ["_law_pool_here"] (defScope sx_law_chain) := ⟨rfl, rfl, rfl, by decide +kernel, rfl, by decide +kernel, by decide +kernel⟩
theorem ck_law_chain : ckSs (ckOf ns_law_chain dnl ct (defScope sx_law_chain)) df_law_chain.body (defBody sx_law_chain) = true := by decide +kernel
theorem sc_law_open_row : FnScope ns_law_open_row ["_law_pool_here", "_law_calls", "_law_outers"] (defScope sx_law_open_row) := ⟨rfl, rfl, rfl, by decide +kernel, rfl, by decide +kernel, by decide +kernel⟩
theorem ck_law_open_row : ckSs (ckOf ns_law_open_row dnl ct (defScope sx_law_open_row)) df_law_open_row.body (defBody sx_law_open_row) = true := by decide +kernel
theorem sc_law_one_word : FnScope ns_law_one_word ["_law_pool_here", "_law_table_here", "_law_thing_here", "_law_calls", "_law_outers"] (defScope sx_law_one_word) := ⟨rfl, rfl, rfl, by decide +kernel, rfl, by decide +kernel, by decide +kernel⟩
theorem ck_law_one_word : ckSs (ckOf ns_law_one_word dnl ct (defScope sx_law_one_word)) df_law_one_word.body (defBody sx_law_one_word) = true := by decide +kernel
theorem sc_law_thing : FnScope ns_law_thing ["_law_pool_here", "_law_table_here"] (defScope sx_law_thing) := ⟨rfl, rfl, rfl, by decide +kernel, rfl, by decide +kernel, by decide +kernel⟩
theorem ck_law_thing : ckSs (ckOf ns_law_thing dnl ct (defScope sx_law_thing)) df_law_thing.body (defBody sx_law_thing) = true := by decide +kernel
theorem sc_law_parts_of : FnScope ns_law_parts_of ["_law_table_here", "_law_thing_here"] (defScope sx_law_parts_of) := ⟨rfl, rfl, rfl, by decide +kernel, rfl, by decide +kernel, by decide +kernel⟩
theorem ck_law_parts_of : ckSs (ckOf ns_law_parts_of dnl ct (defScope sx_law_parts_of)) df_law_parts_of.body (defBody sx_law_parts_of) = true := by decide +kernel
theorem sc_law_like_needs : FnScope ns_law_like_needs ["_law_pool_here", "_law_thing_here", "_law_others"] (defScope sx_law_like_needs) := ⟨rfl, rfl, rfl, by decide +kernel, rfl, by decide +kernel, by decide +kernel⟩
theorem ck_law_like_needs : ckSs (ckOf ns_law_like_needs dnl ct (defScope sx_law_like_needs)) df_law_like_needs.body (defBody sx_law_like_needs) = true := by decide +kernel
theorem sc_law_sum : FnScope ns_law_sum ["_law_a", "_law_b"] (defScope sx_law_sum) := ⟨rfl, rfl, rfl, by decide +kernel, rfl, by decide +kernel, by decide +kernel⟩
theorem ck_law_sum : ckSs (ckOf ns_law_sum dnl ct (defScope sx_law_sum)) df_law_sum.body (defBody sx_law_sum) = true := by decide +kernel
theorem sc_law_object : FnScope ns_law_object ["_law_due"] (defScope sx_law_object) := ⟨rfl, rfl, rfl, by decide +kernel, rfl, by decide +kernel, by decide +kernel⟩
theorem ck_law_object : ckSs (ckOf ns_law_object dnl ct (defScope sx_law_object)) df_law_object.body (defBody sx_law_object) = true := by decide +kernel
theorem sc_law_is : FnScope ns_law_is ["_law_one", "_law_due"] (defScope sx_law_is) := ⟨rfl, rfl, rfl, by decide +kernel, rfl, by decide +kernel, by decide +kernel⟩
theorem ck_law_is : ckSs (ckOf ns_law_is dnl ct (defScope sx_law_is)) df_law_is.body (defBody sx_law_is) = true := by decide +kernel
theorem sc_law : FnScope ns_law ["_law_script"] (defScope sx_law) := ⟨rfl, rfl, rfl, by decide +kernel, rfl, by decide +kernel, by decide +kernel⟩
theorem ck_law : ckSs (ckOf ns_law dnl ct (defScope sx_law)) df_law.body (defBody sx_law) = true := by decide +kernel
theorem facts {P : Program} {w : World} {K : PySem.W.Frag} {h : Heap} {mg : Str → Option Value} {fa : Addr} (X : K.In h) (G : h.Ns mainGlobals mg) (hfa : mg "law" = some (.ref fa)) (c : SaysP hfs hfn hts hex hpr w K) (hp : Plain (runD (TT 30) GG df_law) 63)
    : ∃ fd : FuncData, (∀ (s : Shared) (v : Value), BindsTo s fd ⟨[v], []⟩ [("_law_script", v)]) ∧ ∀ base : Heap, K.In base → base.Ns mainGlobals mg → FnOk P w K mg base (L2.CX P w) 64 fa fd ["_law_script"] (spLaw K 63) := by
  have gl : ∀ x ∈ hgl, (He.Fa.glo x).ok K = true := fun x hx => c.facts (List.mem_append_left _ (List.mem_append_left _ (List.mem_map_of_mem hx)))
  have fr : ∀ x ∈ hfr, mg x = none := fun x hx => He.free_ok X G (c.facts (List.mem_append_left _ (List.mem_append_right _ (List.mem_map_of_mem hx))))
  have cf : ∀ f ∈ hcl, f.ok K = true := fun f hf => c.facts (List.mem_append_right _ hf)
  have ex := c.more
  simp only [hex, Bool.and_eq_true] at ex
  refine law_all (tb := tb) (dnl := dnl) (ct := ct) (G := GG) (k := 30) (N := ns_law) (sx := sx_law) X G hfa (by decide +kernel) (gl _ (by decide +kernel)) (c.def_ 26 (d := dd_law) rfl) sc_law rfl rfl ck_law (fun _ _ _ _ _ _ us hl => match us, hl with | [_], _ => rfl) ?_ ?_ (fun _ _ h => (List.not_mem_nil (show _ ∈ ([] : List (Str × List Str)) from h)).elim) ⟨fun _ _ _ h => (List.not_mem_nil (show _ ∈ ([] : List (Str × List Str × Bool)) from h)).elim, fun _ _ h => (List.not_mem_nil (show _ ∈ ([] : List (Str × Str)) from h)).elim, fun _ _ _ h => (List.not_mem_nil (show _ ∈ ([] : List (Str × Str × Bool)) from h)).elim, fun _ h => (List.not_mem_nil (show _ ∈ ([] : List Str) from h)).elim, fun _ h => (List.not_mem_nil (show _ ∈ ([] : List Str) from h)).elim⟩ (glb_all ?_) (fun x hx => fr x (List.mem_append_left _ hx)) hp
  · exact (all_cons (dkm (N := ns_Object_init) (sx := sx_Object_init) (c := "Object") (m := "__init__") (qual := "Object.__init__") X G (gl _ (by decide +kernel)) (cf _ (List.Mem.head _)) (cf _ (List.Mem.tail _ (List.Mem.tail _ (List.Mem.head _)))) (fun _ => (cf _ (List.Mem.tail _ (List.Mem.head _)))) (by decide +kernel) ex.1 (c.def_ 0 (d := dd_Object_init) rfl) sc_Object_init rfl rfl ck_Object_init (fun _ _ _ _ _ _ us hl => match us, hl with | [_, _, _, _, _, _, _], _ => rfl)) (all_cons (dkm (N := ns_Object_parts) (sx := sx_Object_parts) (c := "Object") (m := "parts") (qual := "Object.parts") X G (gl _ (by decide +kernel)) (cf _ (List.Mem.head _)) (cf _ (List.Mem.tail _ (List.Mem.tail _ (List.Mem.tail _ (List.Mem.head _))))) (fun h => absurd h (by decide)) (by decide +kernel) ex.1 (c.def_ 1 (d := dd_Object_parts) rfl) sc_Object_parts rfl rfl ck_Object_parts (fun _ _ _ _ _ _ us hl => match us, hl with | [_], _ => rfl)) (all_cons (dkp (N := ns_Object_size) (sx := sx_Object_size) (key := "Object.size") (dd := pd_Object_size) (c.prop 0 rfl) rfl rfl rfl (by decide +kernel) sc_Object_size rfl rfl ck_Object_size (fun _ _ _ _ _ _ us hl => match us, hl with | [_], _ => rfl)) (all_cons (dkm (N := ns_Object__add) (sx := sx_Object__add) (c := "Object") (m := "__add__") (qual := "Object.__add__") X G (gl _ (by decide +kernel)) (cf _ (List.Mem.head _)) (cf _ (List.Mem.tail _ (List.Mem.tail _ (List.Mem.tail _ (List.Mem.tail _ (List.Mem.head _)))))) (fun h => absurd h (by decide)) (by decide +kernel) ex.1 (c.def_ 2 (d := dd_Object__add) rfl) sc_Object__add rfl rfl ck_Object__add (fun _ _ _ _ _ _ us hl => match us, hl with | [_, _], _ => rfl)) (all_cons (dk (N := ns_law_pool) (sx := sx_law_pool) (qual := "_law_pool") X G (gl _ (by decide +kernel)) (by decide +kernel) (c.def_ 3 (d := dd_law_pool) rfl) sc_law_pool rfl rfl ck_law_pool (fun _ _ _ _ _ _ us hl => match us, hl with | [_], _ => rfl)) (all_cons (dk (N := ns_law_draw) (sx := sx_law_draw) (qual := "_law_draw") X G (gl _ (by decide +kernel)) (by decide +kernel) (c.def_ 4 (d := dd_law_draw) rfl) sc_law_draw rfl rfl ck_law_draw (fun _ _ _ _ _ _ us hl => match us, hl with | [_, _], _ => rfl)) (all_cons (dk (N := ns_law_pick) (sx := sx_law_pick) (qual := "_law_pick") X G (gl _ (by decide +kernel)) (by decide +kernel) (c.def_ 5 (d := dd_law_pick) rfl) sc_law_pick rfl rfl ck_law_pick (fun _ _ _ _ _ _ us hl => match us, hl with | [_, _], _ => rfl)) (all_cons (dk (N := ns_law_word) (sx := sx_law_word) (qual := "_law_word") X G (gl _ (by decide +kernel)) (by decide +kernel) (c.def_ 6 (d := dd_law_word) rfl) sc_law_word rfl rfl ck_law_word (fun _ _ _ _ _ _ us hl => match us, hl with | [_], _ => rfl)) (all_cons (dk (N := ns_law_alike) (sx := sx_law_alike) (qual := "_law_alike") X G (gl _ (by decide +kernel)) (by decide +kernel) (c.def_ 7 (d := dd_law_alike) rfl) sc_law_alike rfl rfl ck_law_alike (fun _ _ _ _ _ _ us hl => match us, hl with | [_, _], _ => rfl)) (all_cons (dk (N := ns_law_table) (sx := sx_law_table) (qual := "_law_table") X G (gl _ (by decide +kernel)) (by decide +kernel) (c.def_ 8 (d := dd_law_table) rfl) sc_law_table rfl rfl ck_law_table (fun _ _ _ _ _ _ us hl => match us, hl with | [], _ => rfl)) (all_cons (dk (N := ns_law_encoded) (sx := sx_law_encoded) (qual := "_law_encoded") X G (gl _ (by decide +kernel)) (by decide +kernel) (c.def_ 9 (d := dd_law_encoded) rfl) sc_law_encoded rfl rfl ck_law_encoded (fun _ _ _ _ _ _ us hl => match us, hl with | [_, _], _ => rfl)) (all_cons (dk (N := ns_law_edge) (sx := sx_law_edge) (qual := "_law_edge") X G (gl _ (by decide +kernel)) (by decide +kernel) (c.def_ 10 (d := dd_law_edge) rfl) sc_law_edge rfl rfl ck_law_edge (fun _ _ _ _ _ _ us hl => match us, hl with | [_, _, _], _ => rfl)) (all_cons (dk (N := ns_law_drawn_row) (sx := sx_law_drawn_row) (qual := "_law_drawn_row") X G (gl _ (by decide +kernel)) (by decide +kernel) (c.def_ 11 (d := dd_law_drawn_row) rfl) sc_law_drawn_row rfl rfl ck_law_drawn_row (fun _ _ _ _ _ _ us hl => match us, hl with | [_, _], _ => rfl)) (all_cons (dk (N := ns_law_title) (sx := sx_law_title) (qual := "_law_title") X G (gl _ (by decide +kernel)) (by decide +kernel) (c.def_ 12 (d := dd_law_title) rfl) sc_law_title rfl rfl ck_law_title (fun _ _ _ _ _ _ us hl => match us, hl with | [_], _ => rfl)) (all_cons (dk (N := ns_law_many) (sx := sx_law_many) (qual := "_law_many") X G (gl _ (by decide +kernel)) (by decide +kernel) (c.def_ 13 (d := dd_law_many) rfl) sc_law_many rfl rfl ck_law_many (fun _ _ _ _ _ _ us hl => match us, hl with | [_], _ => rfl)) (all_cons (dk (N := ns_law_long) (sx := sx_law_long) (qual := "_law_long") X G (gl _ (by decide +kernel)) (by decide +kernel) (c.def_ 14 (d := dd_law_long) rfl) sc_law_long rfl rfl ck_law_long (fun _ _ _ _ _ _ us hl => match us, hl with | [_], _ => rfl)) (all_cons (dk (N := ns_law_want) (sx := sx_law_want) (qual := "_law_want") X G (gl _ (by decide +kernel)) (by decide +kernel) (c.def_ 15 (d := dd_law_want) rfl) sc_law_want rfl rfl ck_law_want (fun _ _ _ _ _ _ us hl => match us, hl with | [_], _ => rfl)) (all_cons (dk (N := ns_law_datum) (sx := sx_law_datum) (qual := "_law_datum") X G (gl _ (by decide +kernel)) (by decide +kernel) (c.def_ 16 (d := dd_law_datum) rfl) sc_law_datum rfl rfl ck_law_datum (fun _ _ _ _ _ _ us hl => match us, hl with | [_], _ => rfl)) (all_cons (dk (N := ns_law_chain) (sx := sx_law_chain) (qual := "_law_chain") X G (gl _ (by decide +kernel)) (by decide +kernel) (c.def_ 17 (d := dd_law_chain) rfl) sc_law_chain rfl rfl ck_law_chain (fun _ _ _ _ _ _ us hl => match us, hl with | [_], _ => rfl)) (all_cons (dk (N := ns_law_open_row) (sx := sx_law_open_row) (qual := "_law_open_row") X G (gl _ (by decide +kernel)) (by decide +kernel) (c.def_ 18 (d := dd_law_open_row) rfl) sc_law_open_row rfl rfl ck_law_open_row (fun _ _ _ _ _ _ us hl => match us, hl with | [_, _, _], _ => rfl)) (all_cons (dk (N := ns_law_one_word) (sx := sx_law_one_word) (qual := "_law_one_word") X G (gl _ (by decide +kernel)) (by decide +kernel) (c.def_ 19 (d := dd_law_one_word) rfl) sc_law_one_word rfl rfl ck_law_one_word (fun _ _ _ _ _ _ us hl => match us, hl with | [_, _, _, _, _], _ => rfl)) (all_cons (dk (N := ns_law_thing) (sx := sx_law_thing) (qual := "_law_thing") X G (gl _ (by decide +kernel)) (by decide +kernel) (c.def_ 20 (d := dd_law_thing) rfl) sc_law_thing rfl rfl ck_law_thing (fun _ _ _ _ _ _ us hl => match us, hl with | [_, _], _ => rfl)) (all_cons (dk (N := ns_law_parts_of) (sx := sx_law_parts_of) (qual := "_law_parts_of") X G (gl _ (by decide +kernel)) (by decide +kernel) (c.def_ 21 (d := dd_law_parts_of) rfl) sc_law_parts_of rfl rfl ck_law_parts_of (fun _ _ _ _ _ _ us hl => match us, hl with | [_, _], _ => rfl)) (all_cons (dk (N := ns_law_like_needs) (sx := sx_law_like_needs) (qual := "_law_like_needs") X G (gl _ (by decide +kernel)) (by decide +kernel) (c.def_ 22 (d := dd_law_like_needs) rfl) sc_law_like_needs rfl rfl ck_law_like_needs (fun _ _ _ _ _ _ us hl => match us, hl with | [_, _, _], _ => rfl)) (all_cons (dk (N := ns_law_sum) (sx := sx_law_sum) (qual := "_law_sum") X G (gl _ (by decide +kernel)) (by decide +kernel) (c.def_ 23 (d := dd_law_sum) rfl) sc_law_sum rfl rfl ck_law_sum (fun _ _ _ _ _ _ us hl => match us, hl with | [_, _], _ => rfl)) (all_cons (dk (N := ns_law_object) (sx := sx_law_object) (qual := "_law_object") X G (gl _ (by decide +kernel)) (by decide +kernel) (c.def_ 24 (d := dd_law_object) rfl) sc_law_object rfl rfl ck_law_object (fun _ _ _ _ _ _ us hl => match us, hl with | [_], _ => rfl)) (all_cons (dk (N := ns_law_is) (sx := sx_law_is) (qual := "_law_is") X G (gl _ (by decide +kernel)) (by decide +kernel) (c.def_ 25 (d := dd_law_is) rfl) sc_law_is rfl rfl ck_law_is (fun _ _ _ _ _ _ us hl => match us, hl with | [_, _], _ => rfl)) all_nil)))))))))))))))))))))))))))
  · exact (all_cons ⟨gl _ (by decide +kernel), (cf _ (List.Mem.head _)), (cf _ (List.Mem.tail _ (List.Mem.tail _ (List.Mem.tail _ (List.Mem.tail _ (List.Mem.tail _ (List.Mem.head _)))))))⟩ (all_cons ⟨gl _ (by decide +kernel), (cf _ (List.Mem.head _)), (cf _ (List.Mem.tail _ (List.Mem.tail _ (List.Mem.tail _ (List.Mem.tail _ (List.Mem.tail _ (List.Mem.tail _ (List.Mem.head _))))))))⟩ (all_cons ⟨gl _ (by decide +kernel), (cf _ (List.Mem.head _)), (cf _ (List.Mem.tail _ (List.Mem.tail _ (List.Mem.tail _ (List.Mem.tail _ (List.Mem.tail _ (List.Mem.tail _ (List.Mem.tail _ (List.Mem.head _)))))))))⟩ (all_cons ⟨gl _ (by decide +kernel), (cf _ (List.Mem.head _)), (cf _ (List.Mem.tail _ (List.Mem.tail _ (List.Mem.tail _ (List.Mem.tail _ (List.Mem.tail _ (List.Mem.tail _ (List.Mem.tail _ (List.Mem.tail _ (List.Mem.head _))))))))))⟩ (all_cons ⟨gl _ (by decide +kernel), (cf _ (List.Mem.head _)), (cf _ (List.Mem.tail _ (List.Mem.tail _ (List.Mem.tail _ (List.Mem.tail _ (List.Mem.tail _ (List.Mem.tail _ (List.Mem.tail _ (List.Mem.tail _ (List.Mem.tail _ (List.Mem.head _)))))))))))⟩ (all_cons ⟨gl _ (by decide +kernel), (cf _ (List.Mem.head _)), (cf _ (List.Mem.tail _ (List.Mem.tail _ (List.Mem.tail _ (List.Mem.tail _ (List.Mem.tail _ (List.Mem.tail _ (List.Mem.tail _ (List.Mem.tail _ (List.Mem.tail _ (List.Mem.tail _ (List.Mem.head _))))))))))))⟩ all_nil))))))
  · exact (all_cons (gt (fr _ (by decide +kernel)) (by decide +kernel) rfl) (all_cons (gt (fr _ (by decide +kernel)) (by decide +kernel) rfl) (all_cons (gt (fr _ (by decide +kernel)) (by decide +kernel) rfl) (all_cons (gt (fr _ (by decide +kernel)) (by decide +kernel) rfl) (all_cons (gt (fr _ (by decide +kernel)) (by decide +kernel) rfl) all_nil)))))
end Lk60
namespace Lk60
open PySem PySem.Spec PyProof.Rows L2 Pv
@[simp] theorem wd0 : (0 : Int) < wideI := by unfold wideI; omega
@[simp] theorem ld0 : (0 : Int) < litI := by unfold litI; omega
@[simp] theorem md0 : -litI < (0 : Int) := by unfold litI; omega
@[simp] theorem wd1 : (1 : Int) < wideI := by unfold wideI; omega
@[simp] theorem ld1 : (1 : Int) < litI := by unfold litI; omega
@[simp] theorem md1 : -litI < (1 : Int) := by unfold litI; omega
@[simp] theorem wd2 : (2 : Int) < wideI := by unfold wideI; omega
@[simp] theorem ld2 : (2 : Int) < litI := by unfold litI; omega
@[simp] theorem md2 : -litI < (2 : Int) := by unfold litI; omega
@[simp] theorem wd3 : (3 : Int) < wideI := by unfold wideI; omega
@[simp] theorem ld3 : (3 : Int) < litI := by unfold litI; omega
@[simp] theorem md3 : -litI < (3 : Int) := by unfold litI; omega
@[simp] theorem wd4 : (4 : Int) < wideI := by unfold wideI; omega
@[simp] theorem ld4 : (4 : Int) < litI := by unfold litI; omega
@[simp] theorem md4 : -litI < (4 : Int) := by unfold litI; omega
@[simp] theorem wd5 : (5 : Int) < wideI := by unfold wideI; omega
@[simp] theorem ld5 : (5 : Int) < litI := by unfold litI; omega
@[simp] theorem md5 : -litI < (5 : Int) := by unfold litI; omega
@[simp] theorem wd6 : (6 : Int) < wideI := by unfold wideI; omega
@[simp] theorem ld6 : (6 : Int) < litI := by unfold litI; omega
@[simp] theorem md6 : -litI < (6 : Int) := by unfold litI; omega
@[simp] theorem wd7 : (7 : Int) < wideI := by unfold wideI; omega
@[simp] theorem ld7 : (7 : Int) < litI := by unfold litI; omega
@[simp] theorem md7 : -litI < (7 : Int) := by unfold litI; omega
@[simp] theorem wd8 : (8 : Int) < wideI := by unfold wideI; omega
@[simp] theorem ld8 : (8 : Int) < litI := by unfold litI; omega
@[simp] theorem md8 : -litI < (8 : Int) := by unfold litI; omega
@[simp] theorem wd10 : (10 : Int) < wideI := by unfold wideI; omega
@[simp] theorem ld10 : (10 : Int) < litI := by unfold litI; omega
@[simp] theorem md10 : -litI < (10 : Int) := by unfold litI; omega
@[simp] theorem wd11 : (11 : Int) < wideI := by unfold wideI; omega
@[simp] theorem ld11 : (11 : Int) < litI := by unfold litI; omega
@[simp] theorem md11 : -litI < (11 : Int) := by unfold litI; omega
@[simp] theorem wd12 : (12 : Int) < wideI := by unfold wideI; omega
@[simp] theorem ld12 : (12 : Int) < litI := by unfold litI; omega
@[simp] theorem md12 : -litI < (12 : Int) := by unfold litI; omega
@[simp] theorem wd15 : (15 : Int) < wideI := by unfold wideI; omega
@[simp] theorem ld15 : (15 : Int) < litI := by unfold litI; omega
@[simp] theorem md15 : -litI < (15 : Int) := by unfold litI; omega
@[simp] theorem wd16 : (16 : Int) < wideI := by unfold wideI; omega
@[simp] theorem ld16 : (16 : Int) < litI := by unfold litI; omega
@[simp] theorem md16 : -litI < (16 : Int) := by unfold litI; omega
@[simp] theorem wd19 : (19 : Int) < wideI := by unfold wideI; omega
@[simp] theorem ld19 : (19 : Int) < litI := by unfold litI; omega
@[simp] theorem md19 : -litI < (19 : Int) := by unfold litI; omega
@[simp] theorem wd31 : (31 : Int) < wideI := by unfold wideI; omega
@[simp] theorem ld31 : (31 : Int) < litI := by unfold litI; omega
@[simp] theorem md31 : -litI < (31 : Int) := by unfold litI; omega
@[simp] theorem wd32 : (32 : Int) < wideI := by unfold wideI; omega
@[simp] theorem ld32 : (32 : Int) < litI := by unfold litI; omega
@[simp] theorem md32 : -litI < (32 : Int) := by unfold litI; omega
@[simp] theorem wd35 : (35 : Int) < wideI := by unfold wideI; omega
@[simp] theorem ld35 : (35 : Int) < litI := by unfold litI; omega
@[simp] theorem md35 : -litI < (35 : Int) := by unfold litI; omega
@[simp] theorem wd63 : (63 : Int) < wideI := by unfold wideI; omega
@[simp] theorem ld63 : (63 : Int) < litI := by unfold litI; omega
@[simp] theorem md63 : -litI < (63 : Int) := by unfold litI; omega
@[simp] theorem wd64 : (64 : Int) < wideI := by unfold wideI; omega
@[simp] theorem ld64 : (64 : Int) < litI := by unfold litI; omega
@[simp] theorem md64 : -litI < (64 : Int) := by unfold litI; omega
@[simp] theorem wd99 : (99 : Int) < wideI := by unfold wideI; omega
@[simp] theorem ld99 : (99 : Int) < litI := by unfold litI; omega
@[simp] theorem md99 : -litI < (99 : Int) := by unfold litI; omega
@[simp] theorem wd103 : (103 : Int) < wideI := by unfold wideI; omega
@[simp] theorem ld103 : (103 : Int) < litI := by unfold litI; omega
@[simp] theorem md103 : -litI < (103 : Int) := by unfold litI; omega
@[simp] theorem wd111 : (111 : Int) < wideI := by unfold wideI; omega
@[simp] theorem ld111 : (111 : Int) < litI := by unfold litI; omega
@[simp] theorem md111 : -litI < (111 : Int) := by unfold litI; omega
@[simp] theorem wd115 : (115 : Int) < wideI := by unfold wideI; omega
@[simp] theorem ld115 : (115 : Int) < litI := by unfold litI; omega
@[simp] theorem md115 : -litI < (115 : Int) := by unfold litI; omega
@[simp] theorem wd127 : (127 : Int) < wideI := by unfold wideI; omega
@[simp] theorem ld127 : (127 : Int) < litI := by unfold litI; omega
@[simp] theorem md127 : -litI < (127 : Int) := by unfold litI; omega
@[simp] theorem wd128 : (128 : Int) < wideI := by unfold wideI; omega
@[simp] theorem ld128 : (128 : Int) < litI := by unfold litI; omega
@[simp] theorem md128 : -litI < (128 : Int) := by unfold litI; omega
@[simp] theorem wd255 : (255 : Int) < wideI := by unfold wideI; omega
@[simp] theorem ld255 : (255 : Int) < litI := by unfold litI; omega
@[simp] theorem md255 : -litI < (255 : Int) := by unfold litI; omega
@[simp] theorem wd256 : (256 : Int) < wideI := by unfold wideI; omega
@[simp] theorem ld256 : (256 : Int) < litI := by unfold litI; omega
@[simp] theorem md256 : -litI < (256 : Int) := by unfold litI; omega
@[simp] theorem wd1023 : (1023 : Int) < wideI := by unfold wideI; omega
@[simp] theorem ld1023 : (1023 : Int) < litI := by unfold litI; omega
@[simp] theorem md1023 : -litI < (1023 : Int) := by unfold litI; omega
@[simp] theorem wd1024 : (1024 : Int) < wideI := by unfold wideI; omega
@[simp] theorem ld1024 : (1024 : Int) < litI := by unfold litI; omega
@[simp] theorem md1024 : -litI < (1024 : Int) := by unfold litI; omega
@[simp] theorem wd2047 : (2047 : Int) < wideI := by unfold wideI; omega
@[simp] theorem ld2047 : (2047 : Int) < litI := by unfold litI; omega
@[simp] theorem md2047 : -litI < (2047 : Int) := by unfold litI; omega
@[simp] theorem wd2048 : (2048 : Int) < wideI := by unfold wideI; omega
@[simp] theorem ld2048 : (2048 : Int) < litI := by unfold litI; omega
@[simp] theorem md2048 : -litI < (2048 : Int) := by unfold litI; omega
@[simp] theorem wd4094 : (4094 : Int) < wideI := by unfold wideI; omega
@[simp] theorem ld4094 : (4094 : Int) < litI := by unfold litI; omega
@[simp] theorem md4094 : -litI < (4094 : Int) := by unfold litI; omega
@[simp] theorem wd4095 : (4095 : Int) < wideI := by unfold wideI; omega
@[simp] theorem ld4095 : (4095 : Int) < litI := by unfold litI; omega
@[simp] theorem md4095 : -litI < (4095 : Int) := by unfold litI; omega
@[simp] theorem wd4096 : (4096 : Int) < wideI := by unfold wideI; omega
@[simp] theorem ld4096 : (4096 : Int) < litI := by unfold litI; omega
@[simp] theorem md4096 : -litI < (4096 : Int) := by unfold litI; omega
@[simp] theorem wd8192 : (8192 : Int) < wideI := by unfold wideI; omega
@[simp] theorem ld8192 : (8192 : Int) < litI := by unfold litI; omega
@[simp] theorem md8192 : -litI < (8192 : Int) := by unfold litI; omega
@[simp] theorem wd32768 : (32768 : Int) < wideI := by unfold wideI; omega
@[simp] theorem ld32768 : (32768 : Int) < litI := by unfold litI; omega
@[simp] theorem md32768 : -litI < (32768 : Int) := by unfold litI; omega
@[simp] theorem wd65536 : (65536 : Int) < wideI := by unfold wideI; omega
@[simp] theorem ld65536 : (65536 : Int) < litI := by unfold litI; omega
@[simp] theorem md65536 : -litI < (65536 : Int) := by unfold litI; omega
@[simp] theorem wd524288 : (524288 : Int) < wideI := by unfold wideI; omega
@[simp] theorem ld524288 : (524288 : Int) < litI := by unfold litI; omega
@[simp] theorem md524288 : -litI < (524288 : Int) := by unfold litI; omega
@[simp] theorem wd1048574 : (1048574 : Int) < wideI := by unfold wideI; omega
@[simp] theorem ld1048574 : (1048574 : Int) < litI := by unfold litI; omega
@[simp] theorem md1048574 : -litI < (1048574 : Int) := by unfold litI; omega
@[simp] theorem wd1048575 : (1048575 : Int) < wideI := by unfold wideI; omega
@[simp] theorem ld1048575 : (1048575 : Int) < litI := by unfold litI; omega
@[simp] theorem md1048575 : -litI < (1048575 : Int) := by unfold litI; omega
@[simp] theorem wd1048576 : (1048576 : Int) < wideI := by unfold wideI; omega
@[simp] theorem ld1048576 : (1048576 : Int) < litI := by unfold litI; omega
@[simp] theorem md1048576 : -litI < (1048576 : Int) := by unfold litI; omega
@[simp] theorem wd2097152 : (2097152 : Int) < wideI := by unfold wideI; omega
@[simp] theorem ld2097152 : (2097152 : Int) < litI := by unfold litI; omega
@[simp] theorem md2097152 : -litI < (2097152 : Int) := by unfold litI; omega
@[simp] theorem wd33554432 : (33554432 : Int) < wideI := by unfold wideI; omega
@[simp] theorem ld33554432 : (33554432 : Int) < litI := by unfold litI; omega
@[simp] theorem md33554432 : -litI < (33554432 : Int) := by unfold litI; omega
@[simp] theorem wd2147483647 : (2147483647 : Int) < wideI := by unfold wideI; omega
@[simp] theorem ld2147483647 : (2147483647 : Int) < litI := by unfold litI; omega
@[simp] theorem md2147483647 : -litI < (2147483647 : Int) := by unfold litI; omega
@[simp] theorem wd2147483648 : (2147483648 : Int) < wideI := by unfold wideI; omega
@[simp] theorem ld2147483648 : (2147483648 : Int) < litI := by unfold litI; omega
@[simp] theorem md2147483648 : -litI < (2147483648 : Int) := by unfold litI; omega
@[simp] theorem wd4294967295 : (4294967295 : Int) < wideI := by unfold wideI; omega
@[simp] theorem ld4294967295 : (4294967295 : Int) < litI := by unfold litI; omega
@[simp] theorem md4294967295 : -litI < (4294967295 : Int) := by unfold litI; omega
@[simp] theorem wd4294967296 : (4294967296 : Int) < wideI := by unfold wideI; omega
@[simp] theorem ld4294967296 : (4294967296 : Int) < litI := by unfold litI; omega
@[simp] theorem md4294967296 : -litI < (4294967296 : Int) := by unfold litI; omega
@[simp] theorem sm2 : 2 ≤ sizeMax := by unfold sizeMax; omega
@[simp] theorem sm3 : 3 ≤ sizeMax := by unfold sizeMax; omega
@[simp] theorem sm4 : 4 ≤ sizeMax := by unfold sizeMax; omega
@[simp] theorem sm5 : 5 ≤ sizeMax := by unfold sizeMax; omega
@[simp] theorem sl0 : 0 < sizeMax := by unfold sizeMax; omega
@[simp] theorem sl1 : 1 < sizeMax := by unfold sizeMax; omega
@[simp] theorem sl2 : 2 < sizeMax := by unfold sizeMax; omega
@[simp] theorem sl3 : 3 < sizeMax := by unfold sizeMax; omega
@[simp] theorem sl4 : 4 < sizeMax := by unfold sizeMax; omega
@[simp] theorem sl5 : 5 < sizeMax := by unfold sizeMax; omega
@[simp] theorem sl6 : 6 < sizeMax := by unfold sizeMax; omega
@[simp] theorem sl7 : 7 < sizeMax := by unfold sizeMax; omega
@[simp] theorem sl8 : 8 < sizeMax := by unfold sizeMax; omega
@[simp] theorem sl9 : 9 < sizeMax := by unfold sizeMax; omega
@[simp] theorem sl10 : 10 < sizeMax := by unfold sizeMax; omega
@[simp] theorem sl11 : 11 < sizeMax := by unfold sizeMax; omega
@[simp] theorem sl12 : 12 < sizeMax := by unfold sizeMax; omega
@[simp] theorem sl13 : 13 < sizeMax := by unfold sizeMax; omega
@[simp] theorem sl14 : 14 < sizeMax := by unfold sizeMax; omega
@[simp] theorem sl15 : 15 < sizeMax := by unfold sizeMax; omega
@[simp] theorem sl16 : 16 < sizeMax := by unfold sizeMax; omega
@[simp] theorem sl17 : 17 < sizeMax := by unfold sizeMax; omega
@[simp] theorem sl18 : 18 < sizeMax := by unfold sizeMax; omega
@[simp] theorem sl19 : 19 < sizeMax := by unfold sizeMax; omega
@[simp] theorem sm1 : 1 ≤ sizeMax := by unfold sizeMax; omega
@[simp] theorem sm0 : 0 ≤ sizeMax := by unfold sizeMax; omega
@[simp] theorem sm6 : 6 ≤ sizeMax := by unfold sizeMax; omega
@[simp] theorem sm7 : 7 ≤ sizeMax := by unfold sizeMax; omega
@[simp] theorem sm8 : 8 ≤ sizeMax := by unfold sizeMax; omega
@[simp] theorem sm9 : 9 ≤ sizeMax := by unfold sizeMax; omega
@[simp] theorem sm10 : 10 ≤ sizeMax := by unfold sizeMax; omega
@[simp] theorem sm11 : 11 ≤ sizeMax := by unfold sizeMax; omega
@[simp] theorem sm12 : 12 ≤ sizeMax := by unfold sizeMax; omega
@[simp] theorem sm13 : 13 ≤ sizeMax := by unfold sizeMax; omega
@[simp] theorem sm14 : 14 ≤ sizeMax := by unfold sizeMax; omega
@[simp] theorem sm15 : 15 ≤ sizeMax := by unfold sizeMax; omega
@[simp] theorem sm16 : 16 ≤ sizeMax := by unfold sizeMax; omega
@[simp] theorem sm17 : 17 ≤ sizeMax := by unfold sizeMax; omega
@[simp] theorem sm18 : 18 ≤ sizeMax := by unfold sizeMax; omega
@[simp] theorem sm19 : 19 ≤ sizeMax := by unfold sizeMax; omega
@[simp] theorem sm20 : 20 ≤ sizeMax := by unfold sizeMax; omega
@[simp] theorem sm21 : 21 ≤ sizeMax := by unfold sizeMax; omega
@[simp] theorem sm22 : 22 ≤ sizeMax := by unfold sizeMax; omega
@[simp] theorem sm23 : 23 ≤ sizeMax := by unfold sizeMax; omega
@[simp] theorem sm24 : 24 ≤ sizeMax := by unfold sizeMax; omega
@[simp] theorem sm25 : 25 ≤ sizeMax := by unfold sizeMax; omega
@[simp] theorem sm26 : 26 ≤ sizeMax := by unfold sizeMax; omega
@[simp] theorem sm27 : 27 ≤ sizeMax := by unfold sizeMax; omega
@[simp] theorem sm28 : 28 ≤ sizeMax := by unfold sizeMax; omega
@[simp] theorem sm29 : 29 ≤ sizeMax := by unfold sizeMax; omega
@[simp] theorem sm30 : 30 ≤ sizeMax := by unfold sizeMax; omega
@[simp] theorem sm31 : 31 ≤ sizeMax := by unfold sizeMax; omega
@[simp] theorem sm32 : 32 ≤ sizeMax := by unfold sizeMax; omega
@[simp] theorem sm33 : 33 ≤ sizeMax := by unfold sizeMax; omega
@[simp] theorem sm34 : 34 ≤ sizeMax := by unfold sizeMax; omega
@[simp] theorem sm35 : 35 ≤ sizeMax := by unfold sizeMax; omega
@[simp] theorem sm36 : 36 ≤ sizeMax := by unfold sizeMax; omega
@[simp] theorem sm37 : 37 ≤ sizeMax := by unfold sizeMax; omega
@[simp] theorem sm38 : 38 ≤ sizeMax := by unfold sizeMax; omega
@[simp] theorem sm39 : 39 ≤ sizeMax := by unfold sizeMax; omega
@[simp] theorem sm40 : 40 ≤ sizeMax := by unfold sizeMax; omega
@[simp] theorem sl20 : 20 < sizeMax := by unfold sizeMax; omega
@[simp] theorem sl21 : 21 < sizeMax := by unfold sizeMax; omega
@[simp] theorem sl22 : 22 < sizeMax := by unfold sizeMax; omega
@[simp] theorem sl23 : 23 < sizeMax := by unfold sizeMax; omega
@[simp] theorem sl24 : 24 < sizeMax := by unfold sizeMax; omega
@[simp] theorem sl25 : 25 < sizeMax := by unfold sizeMax; omega
@[simp] theorem sl26 : 26 < sizeMax := by unfold sizeMax; omega
@[simp] theorem sl27 : 27 < sizeMax := by unfold sizeMax; omega
@[simp] theorem sl28 : 28 < sizeMax := by unfold sizeMax; omega
@[simp] theorem sl29 : 29 < sizeMax := by unfold sizeMax; omega
@[simp] theorem sl30 : 30 < sizeMax := by unfold sizeMax; omega
@[simp] theorem sl31 : 31 < sizeMax := by unfold sizeMax; omega
@[simp] theorem sl32 : 32 < sizeMax := by unfold sizeMax; omega
@[simp] theorem sl33 : 33 < sizeMax := by unfold sizeMax; omega
@[simp] theorem sl34 : 34 < sizeMax := by unfold sizeMax; omega
@[simp] theorem sl35 : 35 < sizeMax := by unfold sizeMax; omega
@[simp] theorem sl36 : 36 < sizeMax := by unfold sizeMax; omega
@[simp] theorem sl37 : 37 < sizeMax := by unfold sizeMax; omega
@[simp] theorem sl38 : 38 < sizeMax := by unfold sizeMax; omega
@[simp] theorem sl39 : 39 < sizeMax := by unfold sizeMax; omega
@[simp] theorem sl40 : 40 < sizeMax := by unfold sizeMax; omega
abbrev sD (z : String) : D := .str (Str.ofString z)
/-! texts -/
def tx (l : List Nat) : Str := ⟨l.toArray⟩
abbrev tD (l : List Nat) : D := .str (tx l)
def cp (s : String) : List Nat := s.toList.map Char.toNat
theorem tx_cps (l : List Nat) : (tx l).cps.toList = l := by simp [tx]
@[simp] theorem tx_len (l : List Nat) : (tx l).length = l.length := by simp [tx, Str.length]
@[simp] theorem tx_add (a b : List Nat) : tx a ++ tx b = tx (a ++ b) := by
  have := Str.cps_append (tx a) (tx b)
  show (tx a ++ tx b) = _
  cases h : tx a ++ tx b with
  | mk c => rw [h] at this; simp [tx] at this ⊢; exact this
theorem tx_inj {a b : List Nat} : tx a = tx b ↔ a = b := ⟨fun h => by rw [← tx_cps a, h, tx_cps], fun h => by rw [h]⟩
theorem ofS (s : String) : Str.ofString s = tx (cp s) := Str.ofString_eq_toList s
theorem sD_tx (s : String) : sD s = tD (cp s) := by
  show D.str (Str.ofString s) = D.str (tx (cp s))
  rw [ofS]
@[simp] theorem tx_sub (l : List Nat) (j : Int) : subD (.str (tx l)) (.int j) = if l.length ≤ sizeMax then (L2.atI l j).map (fun c => tD [c]) else none := by
  show (if (tx l).length ≤ sizeMax then (L2.atI (tx l).cps.toList j).map (fun c => D.str ⟨#[c]⟩) else none) = _
  rw [tx_len, tx_cps]; rfl
theorem tx_cut (l : List Nat) (a b : Nat) : slcD (.str (tx l)) (some a) (some b) = if l.length ≤ sizeMax then some (tD ((l.drop a).take (b - a)), false) else none := by
  show (if (tx l).length ≤ sizeMax then some (D.str (L2.cutS (tx l) (some a) (some b)), false) else none) = _
  rw [tx_len]
  congr 2
  unfold L2.cutS
  rw [HT.sIx_nat, HT.sIx_nat, tx_cps, tx_len]
  congr 3
  refine congrArg List.toArray ?_
  show (l.drop (min a l.length)).take (min b l.length - min a l.length) = (l.drop a).take (b - a)
  by_cases h1 : a ≤ l.length
  · rw [Nat.min_eq_left h1]
    by_cases h2 : b ≤ l.length
    · rw [Nat.min_eq_left h2]
    · rw [Nat.min_eq_right (show l.length ≤ b by omega), List.take_of_length_le (by simp), List.take_of_length_le (by simp; omega)]
  · rw [Nat.min_eq_right (show l.length ≤ a by omega), List.drop_eq_nil_of_le (Nat.le_refl _), List.drop_eq_nil_of_le (show l.length ≤ a by omega)]
    simp
/-- plain signs -/
def As (l : List Nat) : Prop := ∀ c ∈ l, c < 128
theorem As.cons {c : Nat} {l : List Nat} (h : As (c :: l)) : c < 128 ∧ As l := ⟨h c (by simp), fun d hd => h d (by simp [hd])⟩
theorem As.one {c : Nat} (h : c < 128) : As [c] := fun d hd => by simp at hd; omega
theorem As.app {a b : List Nat} (h : As a) (g : As b) : As (a ++ b) := fun c hc => by
  rcases List.mem_append.mp hc with hc | hc
  · exact h c hc
  · exact g c hc
theorem fine_tx {a : List Nat} (h : As a) (k : Nat) : (tD a).fine k = true := by
  have : (tx a).cps.all (· < 0x110000) = true := by
    simp only [tx, List.all_toArray, List.all_eq_true, decide_eq_true_eq]
    intro c hc
    have := h c hc
    omega
  cases k <;> exact this
theorem eqv_tx (a b : List Nat) : (tD a).eqv (tD b) = decide (a = b) := by
  show decide (tx a = tx b) = _
  simp only [tx_inj]
theorem tx_eq {a b : List Nat} (ha : As a) (hb : As b) : cmpD .Eq (.str (tx a)) (.str (tx b)) = some (decide (a = b)) := by
  show (if (tD a).fine 64 && (tD b).fine 64 then some ((tD a).eqv (tD b)) else none) = _
  rw [fine_tx ha, fine_tx hb, eqv_tx]; rfl
theorem tx_ne {a b : List Nat} (ha : As a) (hb : As b) : cmpD .NotEq (.str (tx a)) (.str (tx b)) = some (!decide (a = b)) := by
  show (cmpD .Eq (.str (tx a)) (.str (tx b))).map (!·) = _
  rw [tx_eq ha hb]; rfl
theorem memD_tx {a : List Nat} (ha : As a) (ns : List (List Nat)) (hn : ∀ b ∈ ns, As b) : memD (tD a) (ns.map tD) = some (decide (a ∈ ns)) := by
  have hf : fineL 64 (ns.map tD) = true := by
    induction ns with
    | nil => simp [fineL]
    | cons b ns ih => simp [fineL, fine_tx (hn b (by simp)), ih fun c hc => hn c (by simp [hc])]
  unfold memD
  rw [fine_tx ha, hf, Bool.and_self, if_pos rfl, List.any_map]
  congr 1
  rw [Bool.eq_iff_iff]
  simp [eqv_tx]
theorem in_c (c : Nat) (l : List Nat) : cmpD .In (.str (tx [c])) (.str (tx l)) = some (decide (c ∈ l)) := by
  show some (!(PySem.Builtin.Str.occurrences (tx l) (tx [c]) 0 (tx l).length 1).isEmpty) = _
  rw [show tx [c] = ⟨#[c]⟩ from rfl, StrLaws.found_one, tx_cps]
theorem nin_c (c : Nat) (l : List Nat) : cmpD .NotIn (.str (tx [c])) (.str (tx l)) = some (!decide (c ∈ l)) := by
  show (cmpD .In (.str (tx [c])) (.str (tx l))).map (!·) = _
  rw [in_c]; rfl
theorem its_tx (l : List Nat) : (tx l).cps.toList.map (fun c => D.str ⟨#[c]⟩) = l.map (fun c => tD [c]) := by
  rw [tx_cps]; rfl
theorem rep_tx (l : List Nat) (k : Nat) : strRep (tx l) k = tx (List.replicate k l).flatten := by
  unfold strRep; rw [tx_cps]; rfl
@[simp] theorem items_tx (l : List Nat) : itemsD (.str (tx l)) = some (l.map fun c => tD [c]) := by
  show some ((tx l).cps.toList.map fun c => D.str ⟨#[c]⟩) = _
  rw [its_tx]
@[simp] theorem aug_add (a b : Int) : augD .Add (.int a) (.int b) = some (.int (a + b)) := (rfl)
/-! the drawing -/
theorem t_draw (k : Nat) : TT (k+1) "_law_draw" = runD (TT k) GG df_draw := rfl
theorem t_pool (k : Nat) : TT (k+1) "_law_pool" = runD (TT k) GG df_pool := rfl
theorem draw_ (k : Nat) {n : Nat} {ns : List Int} {s s' : Sto} {m : Int} (h : PA n ns s s') (hm : 0 < m) (hm2 : m < 1000000000000) : ∃ r s2, TT (k+1) "_law_draw" [.loc n, .int m] s' = some (.rt (.int r) false, s2) ∧ PA n ns s s2 ∧ 0 ≤ r ∧ r < m := draw_pa h hm (by unfold wideI; omega)
theorem pick_ (k : Nat) {n : Nat} {ns : List Int} {s s' : Sto} (l : List D) (h : PA n ns s s') (hl : 0 < l.length) (hl2 : l.length < 100000) : ∃ x s2, TT (k+2) "_law_pick" [.loc n, .lst l] s' = some (.rt x false, s2) ∧ PA n ns s s2 ∧ x ∈ l := by
  obtain ⟨r, s2, e, p, h1, h2⟩ := draw_ k h (m := l.length) (by omega) (by omega)
  have hr : r.toNat < l.length := by omega
  refine ⟨l[r.toNat], s2, ?_, p, List.getElem_mem hr⟩
  rw [show TT (k+2) "_law_pick" = runD (TT (k+1)) GG df_law_pick from rfl, runD_out rfl (by decide)]
  simp [df_law_pick, e, Pv.atI_nat h1, List.getElem?_eq_getElem hr]
/-- a thing of a native list -/
theorem pickG {α : Type} (g : α → D) (k : Nat) {n : Nat} {ns : List Int} {s s' : Sto} (l : List α) (h : PA n ns s s') (hl : 0 < l.length) (hl2 : l.length < 100000) : ∃ z s2, TT (k+2) "_law_pick" [.loc n, .lst (l.map g)] s' = some (.rt (g z) false, s2) ∧ PA n ns s s2 ∧ z ∈ l := by
  obtain ⟨x, s2, e, p, hx⟩ := pick_ k (l.map g) h (by simpa using hl) (by simpa using hl2)
  obtain ⟨z, hz, rfl⟩ := List.mem_map.mp hx
  exact ⟨z, s2, e, p, hz⟩
/-- the pool, and two numbers in lists of their own -/
def PB (n c r : Nat) (ns : List Int) (s s' : Sto) : Prop := ∃ i j : Int, PA n ns ((s.set c (.lst [.int i])).set r (.lst [.int j])) s' ∧ c < s.length ∧ r < s.length ∧ n ≠ c ∧ n ≠ r ∧ c ≠ r
section
variable {n c r : Nat} {ns : List Int} {s s' : Sto}
theorem PB.cc (h : PB n c r ns s s') : (∃ i : Int, s'[c]? = some (.lst [.int i])) ∧ ∀ x : Int, PB n c r ns s (s'.set c (.lst [.int x])) := by
  obtain ⟨i, j, ⟨h1, h2, a, v, d, ha, hv, hd, rfl⟩, h3, h4, h5, h6, h7⟩ := h
  refine ⟨⟨i, ?_⟩, fun x => ⟨x, j, ⟨by simpa using h1, h2, a, v, d, ha, hv, hd, ?_⟩, h3, h4, h5, h6, h7⟩⟩
  · rw [List.getElem?_set_ne h5, List.getElem?_set_ne (Ne.symm h7), List.getElem?_set_self h3]
  · rw [List.set_comm _ _ h5, List.set_comm _ _ (Ne.symm h7), List.set_set]
theorem PB.rr (h : PB n c r ns s s') : (∃ i : Int, s'[r]? = some (.lst [.int i])) ∧ ∀ x : Int, PB n c r ns s (s'.set r (.lst [.int x])) := by
  obtain ⟨i, j, ⟨h1, h2, a, v, d, ha, hv, hd, rfl⟩, h3, h4, h5, h6, h7⟩ := h
  refine ⟨⟨j, ?_⟩, fun x => ⟨i, x, ⟨by simpa using h1, h2, a, v, d, ha, hv, hd, ?_⟩, h3, h4, h5, h6, h7⟩⟩
  · rw [List.getElem?_set_ne h6, List.getElem?_set_self (by simpa using h4)]
  · rw [List.set_comm _ _ h6, List.set_set]
theorem drawB (k : Nat) {m : Int} (h : PB n c r ns s s') (hm : 0 < m) (hm2 : m < 1000000000000) : ∃ x s2, TT (k+1) "_law_draw" [.loc n, .int m] s' = some (.rt (.int x) false, s2) ∧ PB n c r ns s s2 ∧ 0 ≤ x ∧ x < m := by
  obtain ⟨i, j, h, h3⟩ := h
  obtain ⟨x, s2, e, p, h1, h2⟩ := draw_ k h hm hm2
  exact ⟨x, s2, e, ⟨i, j, p, h3⟩, h1, h2⟩
theorem pickB {α : Type} (g : α → D) (k : Nat) (l : List α) (h : PB n c r ns s s') (hl : 0 < l.length) (hl2 : l.length < 100000) : ∃ z s2, TT (k+2) "_law_pick" [.loc n, .lst (l.map g)] s' = some (.rt (g z) false, s2) ∧ PB n c r ns s s2 ∧ z ∈ l := by
  obtain ⟨i, j, h, h3⟩ := h
  obtain ⟨x, s2, e, p, h1⟩ := pickG g k l h hl hl2
  exact ⟨x, s2, e, ⟨i, j, p, h3⟩, h1⟩
end
/-! names -/
structure Nm where
  l : List Nat
  as : As l
  len : l.length ≤ 1000
def Nm.D (a : Nm) : D := .str (tx a.l)
theorem Nm.ext {a b : Nm} (h : a.l = b.l) : a = b := by cases a; cases b; cases h; rfl
instance : DecidableEq Nm := fun a b => if h : a.l = b.l then isTrue (Nm.ext h) else isFalse fun e => h (by rw [e])
theorem Nm.inj {a b : Nm} : a.D = b.D ↔ a = b := ⟨fun h => Nm.ext (by injection h with h; exact tx_inj.mp h), fun h => by rw [h]⟩
/-- a literal name -/
def okz (z : String) : Bool := (cp z).all (· < 128) && decide ((cp z).length ≤ 1000)
theorem As_cp (z : String) (h : (cp z).all (· < 128) = true) : As (cp z) := fun c hc => by simpa using List.all_eq_true.mp h c hc
inductive Ex where
theorem nm_lit {z : String} (h : okz z = true) : ∃ m : Nm, sD z = m.D := by
  unfold okz at h
  rw [Bool.and_eq_true] at h
  exact ⟨⟨cp z, As_cp z h.1, by simpa using h.2⟩, sD_tx z⟩
theorem okz_cp {z : String} (h : okz z = true) : As (cp z) := by
  unfold okz at h
  rw [Bool.and_eq_true] at h
  exact As_cp z h.1
theorem sign_at {l : List Nat} (hl : l.length ≤ sizeMax) (as : As l) {j : Int} (h0 : 0 ≤ j) (h1 : j < l.length) : ∃ c, c < 128 ∧ L2.atI l j = some c := by
  have hj : j.toNat < l.length := by omega
  refine ⟨l[j.toNat], as _ (List.getElem_mem hj), ?_⟩
  rw [Pv.atI_nat h0, List.getElem?_eq_getElem hj]
theorem fine_sD (k : Nat) (z : String) : (sD z).fine k = true := by
  have h : (Str.ofString z).cps.all (· < 0x110000) = true := ofString_fine
  cases k <;> exact h
theorem in_strs {l : List Nat} (h : As l) (L : List String) : cmpD .In (.str (tx l)) (.tup (L.map sD)) = some (decide (l ∈ L.map cp)) := by
  show memD (tD l) (L.map sD) = _
  have hf : fineL 64 (L.map sD) = true := fineL_map (fun b => fine_sD 64 b) L
  unfold memD
  rw [fine_tx h, hf, Bool.and_self, if_pos rfl, List.any_map]
  congr 1
  rw [Bool.eq_iff_iff]
  simp only [List.any_eq_true, decide_eq_true_eq, List.mem_map, Function.comp]
  constructor
  · rintro ⟨z, hz, e⟩
    refine ⟨z, hz, ?_⟩
    rw [sD_tx, eqv_tx] at e
    simpa using e
  · rintro ⟨z, hz, rfl⟩
    refine ⟨z, hz, ?_⟩
    rw [sD_tx, eqv_tx]; simp
section
variable {n : Nat} {ns : List Int} {s s' : Sto}
def sgns : List Nat := cp "abcdefghijklmnopqrstuvwxyz0123456789"
theorem sgns_len : sgns.length = 36 := by decide +kernel
theorem sgns_as : As sgns := okz_cp (z := "abcdefghijklmnopqrstuvwxyz0123456789") (by decide +kernel)
theorem title_loop (k : Nat) {q0 : Sl} (js : List D) (l : List Nat) (t : Sl) (h : PA n ns s s') (as : As l) (hj : l.length + js.length ≤ 100) :
    ∃ (l' : List Nat) (t' : Sl) (s2 : Sto), forL (turn (TT (k+1)) GG (.nm 4) lb_law_title_1) js [.fr (.loc n), q0, .fr (.str (tx sgns)), .fr (.str (tx l)), t] s' = .ok .nx [.fr (.loc n), q0, .fr (.str (tx sgns)), .fr (.str (tx l')), t'] s2 ∧ PA n ns s s2 ∧ As l' ∧ l'.length ≤ 100 := by
  induction js generalizing l t s' with
  | nil => exact ⟨l, t, s', rfl, h, as, by simpa using hj⟩
  | cons j js ih =>
    obtain ⟨r, s1, e1, p1, a1, b1⟩ := draw_ k h (m := 36) (by decide) (by decide)
    obtain ⟨c, hc, ec⟩ := sign_at (l := sgns) (by rw [sgns_len]; unfold sizeMax; omega) sgns_as a1 (by rw [sgns_len]; exact b1)
    simp only [List.length_cons] at hj
    obtain ⟨l', t', s2, e2, p2, as2, l2⟩ := ih (l ++ [c]) (.fr j) p1 (as.app (As.one hc)) (by simp; omega)
    refine ⟨l', t', s2, ?_, p2, as2, l2⟩
    have hl : l.length + 1 ≤ sizeMax := by unfold sizeMax; omega
    have tn : turn (TT (k+1)) GG (.nm 4) lb_law_title_1 j [.fr (.loc n), q0, .fr (.str (tx sgns)), .fr (.str (tx l)), t] s' = .ok .nx [.fr (.loc n), q0, .fr (.str (tx sgns)), .fr (.str (tx (l ++ [c]))), .fr j] s1 := by
      (try simp at e1)
      have hg : sgns.length ≤ sizeMax := by rw [sgns_len]; unfold sizeMax; omega
      generalize sgns = sg at *
      simp [lb_law_title_1, e1, ec, hl, hg]
    rw [forL_cons, tn, R.bind_ok, kTn_nx, e2]
theorem title_ (k : Nat) (h : PA n ns s s') : ∃ (z : Nm) (s2 : Sto), TT (k+3) "_law_title" [.loc n] s' = some (.rt z.D false, s2) ∧ PA n ns s s2 := by
  rw [show TT (k+3) "_law_title" = runD (TT (k+2)) GG df_law_title from rfl]
  obtain ⟨r, s1, e1, p1, a1, b1⟩ := draw_ (k+1) h (m := 3) (by decide) (by decide)
  by_cases c : 0 < r
  · obtain ⟨z, s2, e2, p2, hz⟩ := pickG sD k ["g", "main", "f", "x5", "call", "high", "low", "need", "array", "mark", "function", "add", "lw", "ecall", "a0", "abcdefgh"] p1 (by decide) (by decide)
    have : okz z = true := (by decide +kernel : ∀ z ∈ ["g", "main", "f", "x5", "call", "high", "low", "need", "array", "mark", "function", "add", "lw", "ecall", "a0", "abcdefgh"], okz z = true) z hz
    obtain ⟨m, hm⟩ := nm_lit this
    refine ⟨m, s2, ?_, p2⟩
    rw [← hm, runD_out rfl (by decide)]
    (try simp at e2)
    simp [df_law_title, e1, c, e2, sizeMax]
  · obtain ⟨r2, s2, e2, p2, a2, b2⟩ := draw_ (k+1) p1 (m := 26) (by decide) (by decide)
    obtain ⟨r3, s3, e3, p3, a3, b3⟩ := draw_ (k+1) p2 (m := 8) (by decide) (by decide)
    obtain ⟨cc, hc, ec⟩ := sign_at (l := sgns) (by rw [sgns_len]; unfold sizeMax; omega) sgns_as a2 (by rw [sgns_len]; omega)
    have hl : (rangeL 0 r3).length = r3.toNat := by simp [rangeL]
    obtain ⟨l, t, s4, e4, p4, as4, l4⟩ := title_loop (k+1) (q0 := .un) (rangeL 0 r3) [cc] .un p3 (As.one hc) (by rw [hl]; simp; omega)
    have hs : small62 r3 = true := by simp [small62]; omega
    have hw : D.str (Str.ofString "abcdefghijklmnopqrstuvwxyz0123456789") = .str (tx sgns) := sD_tx _
    have hm := in_strs as4 ["break", "continue", "else", "if", "mod", "return", "tell", "use", "while", "word"]
    have hzz : okz "zz" = true := by decide +kernel
    obtain ⟨mz, hmz⟩ := nm_lit hzz
    by_cases q : l ∈ List.map cp ["break", "continue", "else", "if", "mod", "return", "tell", "use", "while", "word"]
    · refine ⟨mz, s4, ?_, p4⟩
      rw [← hmz, runD_out rfl (by decide)]
      rw [decide_eq_true q] at hm
      clear q
      (try simp at hm); (try simp at e4); (try simp at e2); (try simp at e3)
      have hg : sgns.length ≤ 16777216 := by rw [sgns_len]; decide
      generalize sgns = sg at *
      simp [df_law_title, hg, e1, c, e2, e3, hw, ec, hs, e4, hm, sizeMax]
    · refine ⟨⟨l, as4, by omega⟩, s4, ?_, p4⟩
      rw [runD_out rfl (by decide)]
      rw [decide_eq_false q] at hm
      clear q
      (try simp at hm); (try simp at e4); (try simp at e2); (try simp at e3)
      have hg : sgns.length ≤ 16777216 := by rw [sgns_len]; decide
      generalize sgns = sg at *
      simp [df_law_title, hg, e1, c, e2, e3, hw, ec, hs, e4, hm, sizeMax, Nm.D]
end
/-! rows -/
abbrev Rw := String × String × Int × Int × Int
def fmD (t : Rw) : D := .tup [sD t.2.1, .int t.2.2.1, .int t.2.2.2.1, .int t.2.2.2.2]
def tbL : List Rw := [("jalr", "I", 103, 0, 0), ("lw", "I", 3, 2, 0), ("sw", "S", 35, 2, 0), ("jal", "J", 111, 0, 0), ("lui", "U", 55, 0, 0), ("auipc", "U", 23, 0, 0),
  ("add", "R", 51, 0, 0), ("mul", "R", 51, 0, 1), ("sll", "R", 51, 1, 0), ("mulh", "R", 51, 1, 1), ("slt", "R", 51, 2, 0), ("mulhsu", "R", 51, 2, 1), ("sltu", "R", 51, 3, 0), ("mulhu", "R", 51, 3, 1), ("xor", "R", 51, 4, 0), ("div", "R", 51, 4, 1), ("srl", "R", 51, 5, 0), ("divu", "R", 51, 5, 1), ("or", "R", 51, 6, 0), ("rem", "R", 51, 6, 1), ("and", "R", 51, 7, 0), ("remu", "R", 51, 7, 1)] ++
  [("sub", "R", 51, 0, 32), ("sra", "R", 51, 5, 32), ("addi", "I", 19, 0, 0), ("slti", "I", 19, 2, 0), ("sltiu", "I", 19, 3, 0), ("xori", "I", 19, 4, 0), ("ori", "I", 19, 6, 0), ("andi", "I", 19, 7, 0), ("slli", "shift", 19, 1, 0), ("srli", "shift", 19, 5, 0), ("srai", "shift", 19, 5, 32), ("beq", "B", 99, 0, 0), ("bne", "B", 99, 1, 0), ("blt", "B", 99, 4, 0), ("bge", "B", 99, 5, 0), ("bltu", "B", 99, 6, 0), ("bgeu", "B", 99, 7, 0)]
def tbK : List (D × D) := tbL.map fun t => (sD t.1, fmD t)
theorem table_ (k : Nat) (s : Sto) : TT (k+1) "_law_table" [] s = some (.rt (.dic tbK) false, s) := by
  rw [show TT (k+1) "_law_table" = runD (TT k) GG df_law_table from rfl]
  kernel_rfl
theorem look_ : ∀ t ∈ tbL, lookK tbK (sD t.1) = some (fmD t) := by
  intro t ht
  simp only [tbL, List.mem_append, List.mem_cons, List.not_mem_nil, or_false] at ht
  rcases ht with ht | ht <;> rcases ht with rfl | rfl | rfl | rfl | rfl | rfl | rfl | rfl | rfl | rfl | rfl | rfl | rfl | rfl | rfl | rfl | rfl | rfl | rfl | rfl | rfl | rfl <;> kernel_rfl
def nmsL : List String := tbL.map (·.1) ++ ["ecall", "ebreak"]
theorem keys_ : tbK.map (·.1) = (tbL.map (·.1)).map sD := by
  unfold tbK
  rw [List.map_map, List.map_map]; rfl
@[simp] theorem der_fm (s : Sto) (t : Rw) : der s (fmD t) = some (fmD t) := (rfl)
@[simp] theorem sub_fm0 (t : Rw) : subD (fmD t) (.int 0) = some (sD t.2.1) := (rfl)
@[simp] theorem sub_fm1 (t : Rw) : subD (fmD t) (.int 1) = some (.int t.2.2.1) := (rfl)
@[simp] theorem sub_fm2 (t : Rw) : subD (fmD t) (.int 2) = some (.int t.2.2.2.1) := (rfl)
@[simp] theorem sub_fm3 (t : Rw) : subD (fmD t) (.int 3) = some (.int t.2.2.2.2) := (rfl)
@[simp] theorem der_tbK (s : Sto) : der s (.dic tbK) = some (.dic tbK) := (rfl)
abbrev Row := String × List Int
def rD (r : Row) : D := .tup (sD r.1 :: r.2.map D.int)
/-- the entries that a form takes -/
def entOK (F : String) (xs : List Int) : Prop :=
  if F = "U" then ∃ a v, xs = [a, v] ∧ 0 ≤ a ∧ a < 32 ∧ 0 ≤ v ∧ v ≤ 1048575
  else if F = "J" then ∃ a o, xs = [a, 2 * o] ∧ 0 ≤ a ∧ a < 32 ∧ -524288 ≤ o ∧ o ≤ 524287
  else if F = "B" then ∃ a b o, xs = [a, b, 2 * o] ∧ 0 ≤ a ∧ a < 32 ∧ 0 ≤ b ∧ b < 32 ∧ -2048 ≤ o ∧ o ≤ 2047
  else if F = "I" ∨ F = "S" then ∃ a b c, xs = [a, b, c] ∧ 0 ≤ a ∧ a < 32 ∧ 0 ≤ b ∧ b < 32 ∧ -2048 ≤ c ∧ c ≤ 2047
  else ∃ a b c, xs = [a, b, c] ∧ 0 ≤ a ∧ a < 32 ∧ 0 ≤ b ∧ b < 32 ∧ 0 ≤ c ∧ c < 32
theorem ent_U {a v : Int} (h : 0 ≤ a) (h2 : a < 32) (h3 : 0 ≤ v) (h4 : v ≤ 1048575) : entOK "U" [a, v] := by
  unfold entOK; rw [if_pos rfl]; exact ⟨a, v, rfl, h, h2, h3, h4⟩
theorem ent_J {a o : Int} (h : 0 ≤ a) (h2 : a < 32) (h3 : -524288 ≤ o) (h4 : o ≤ 524287) : entOK "J" [a, 2 * o] := by
  unfold entOK; rw [if_neg (by decide), if_pos rfl]; exact ⟨a, o, rfl, h, h2, h3, h4⟩
theorem ent_B {a b o : Int} (h : 0 ≤ a) (h2 : a < 32) (g : 0 ≤ b) (g2 : b < 32) (h3 : -2048 ≤ o) (h4 : o ≤ 2047) : entOK "B" [a, b, 2 * o] := by
  unfold entOK; rw [if_neg (by decide), if_neg (by decide), if_pos rfl]; exact ⟨a, b, o, rfl, h, h2, g, g2, h3, h4⟩
theorem ent_I {a b o : Int} (h : 0 ≤ a) (h2 : a < 32) (g : 0 ≤ b) (g2 : b < 32) (h3 : -2048 ≤ o) (h4 : o ≤ 2047) : entOK "I" [a, b, o] := by
  unfold entOK; rw [if_neg (by decide), if_neg (by decide), if_neg (by decide), if_pos (by decide)]; exact ⟨a, b, o, rfl, h, h2, g, g2, h3, h4⟩
theorem ent_S {a b o : Int} (h : 0 ≤ a) (h2 : a < 32) (g : 0 ≤ b) (g2 : b < 32) (h3 : -2048 ≤ o) (h4 : o ≤ 2047) : entOK "S" [a, b, o] := by
  unfold entOK; rw [if_neg (by decide), if_neg (by decide), if_neg (by decide), if_pos (by decide)]; exact ⟨a, b, o, rfl, h, h2, g, g2, h3, h4⟩
theorem ent_R {a b o : Int} (h : 0 ≤ a) (h2 : a < 32) (g : 0 ≤ b) (g2 : b < 32) (h3 : 0 ≤ o) (h4 : o < 32) : entOK "R" [a, b, o] := by
  unfold entOK; rw [if_neg (by decide), if_neg (by decide), if_neg (by decide), if_neg (by decide)]; exact ⟨a, b, o, rfl, h, h2, g, g2, h3, h4⟩
theorem ent_sh {a b o : Int} (h : 0 ≤ a) (h2 : a < 32) (g : 0 ≤ b) (g2 : b < 32) (h3 : 0 ≤ o) (h4 : o < 32) : entOK "shift" [a, b, o] := by
  unfold entOK; rw [if_neg (by decide), if_neg (by decide), if_neg (by decide), if_neg (by decide)]; exact ⟨a, b, o, rfl, h, h2, g, g2, h3, h4⟩
def okR (r : Row) : Prop := r = ("ecall", []) ∨ r = ("ebreak", []) ∨ ∃ t ∈ tbL, r.1 = t.1 ∧ entOK t.2.1 r.2
theorem forms_of : ∀ t ∈ tbL, t.2.1 ∈ ["U", "J", "B", "I", "S", "R", "shift"] := by decide +kernel
theorem not_alone : ∀ t ∈ tbL, t.1 ∉ ["ecall", "ebreak"] := by decide +kernel
theorem memS (z : String) (l : List String) : cmpD .In (sD z) (.tup (l.map sD)) = some (decide (z ∈ l)) := memD_map (g := sD) (fun b => fine_sD 64 b) (fun a b => by
    show decide (Str.ofString a = Str.ofString b) = _
    simp only [ofString_inj]) z l
section
variable {n : Nat} {ns : List Int} {s s' : Sto}
theorem edge_ (k : Nat) (h : PA n ns s s') {lo hi : Int} (h0 : -600000 ≤ lo) (h1 : lo ≤ 0) (h2 : 0 ≤ hi) (h3 : hi ≤ 1048575) : ∃ (r : Int) (s2 : Sto), TT (k+2) "_law_edge" [.loc n, .int lo, .int hi] s' = some (.rt (.int r) false, s2) ∧ PA n ns s s2 ∧ lo ≤ r ∧ r ≤ hi := by
  rw [show TT (k+2) "_law_edge" = runD (TT (k+1)) GG df_law_edge from rfl]
  obtain ⟨r, s1, e1, p1, a1, b1⟩ := draw_ k h (m := 5) (by decide) (by decide)
  by_cases c0 : r = 0
  · exact ⟨lo, s1, by rw [runD_out rfl (by decide)]; simp [df_law_edge, e1, c0], p1, by omega, by omega⟩
  by_cases c1 : r = 1
  · exact ⟨hi, s1, by rw [runD_out rfl (by decide)]; simp [df_law_edge, e1, c1], p1, by omega, by omega⟩
  by_cases c2 : r = 2
  · exact ⟨0, s1, by rw [runD_out rfl (by decide)]; simp [df_law_edge, e1, c2], p1, by omega, by omega⟩
  obtain ⟨r2, s2, e2, p2, a2, b2⟩ := draw_ k p1 (m := hi - lo + 1) (by omega) (by omega)
  refine ⟨lo + r2, s2, ?_, p2, by omega, by omega⟩
  rw [runD_out rfl (by decide)]
  (try simp at e2)
  simp [df_law_edge, e1, c0, c1, c2, e2]
theorem drawn_row_ (k : Nat) (h : PA n ns s s') : ∃ (r : Row) (s2 : Sto), TT (k+3) "_law_drawn_row" [.loc n, .dic tbK] s' = some (.rt (rD r) false, s2) ∧ PA n ns s s2 ∧ okR r := by
  rw [show TT (k+3) "_law_drawn_row" = runD (TT (k+2)) GG df_law_drawn_row from rfl]
  obtain ⟨z, s1, e1, p1, hz⟩ := pickG sD k nmsL h (by decide) (by decide)
  have hn : (tbL.map (·.1)).map sD ++ [sD "ecall", sD "ebreak"] = nmsL.map sD := by simp [nmsL]
  have hlen : tbK.length ≤ sizeMax - 2 := by unfold sizeMax; decide
  have hlen2 : tbL.length + 2 ≤ sizeMax := by unfold sizeMax; decide
  have m2 := memS z ["ecall", "ebreak"]
  unfold nmsL at hz
  rw [List.mem_append] at hz
  rcases hz with hz | hz
  · obtain ⟨t, ht, rfl⟩ := List.mem_map.mp hz
    have lk := look_ t ht
    have na := not_alone t ht
    rw [decide_eq_false na] at m2
    obtain ⟨a, s2, e2, p2, a0, a1⟩ := draw_ (k+1) p1 (m := 32) (by decide) (by decide)
    obtain ⟨b, s3, e3, p3, b0, b1⟩ := draw_ (k+1) p2 (m := 32) (by decide) (by decide)
    obtain ⟨u, su, eu, pu, u0, u1⟩ := edge_ k p2 (lo := 0) (hi := 1048575) (by decide) (by decide) (by decide) (by decide)
    obtain ⟨j, sj, ej, pj, j0, j1⟩ := edge_ k p2 (lo := -524288) (hi := 524287) (by decide) (by decide) (by decide) (by decide)
    obtain ⟨i, si, ei, pi, i0, i1⟩ := edge_ k p3 (lo := -2048) (hi := 2047) (by decide) (by decide) (by decide) (by decide)
    obtain ⟨c, s4, e4, p4, c0, c1⟩ := draw_ (k+1) p3 (m := 32) (by decide) (by decide)
    have key : ∀ (xs : List Int) (s2 : Sto), runD (TT (k+2)) GG df_law_drawn_row [.loc n, .dic tbK] s' = some (.rt (rD (t.1, xs)) false, s2) → PA n ns s s2 → entOK t.2.1 xs → ∃ (r : Row) (s2 : Sto), runD (TT (k+2)) GG df_law_drawn_row [.loc n, .dic tbK] s' = some (.rt (rD r) false, s2) ∧ PA n ns s s2 ∧ okR r :=
      fun xs s2 e p h => ⟨(t.1, xs), s2, e, p, .inr (.inr ⟨t, ht, rfl, h⟩)⟩
    have hf := forms_of t ht
    clear ht hz na
    rw [← hn] at e1
    (try simp at e1); (try simp at m2)
    obtain ⟨t1, F, t3⟩ := t
    simp only [List.mem_cons, List.not_mem_nil, or_false] at hf
    simp only at *
    have f0 : subD (fmD (t1, F, t3)) (.int 0) = some (sD F) := rfl
    generalize fmD (t1, F, t3) = fd at *
    have hd : ∀ s, der s fd = some fd := fun s => by
      unfold subD at f0
      cases fd <;> first | rfl | simp at f0
    rcases hf with rfl | rfl | rfl | rfl | rfl | rfl | rfl
    · refine key [a, u] su ?_ pu (ent_U a0 a1 u0 u1)
      rw [runD_out rfl (by decide)]
      simp [df_law_drawn_row, keys_, e1, m2, lk, f0, hd, e2, eu, rD, hlen2]
    · refine key [a, 2 * j] sj ?_ pj (ent_J a0 a1 j0 j1)
      rw [runD_out rfl (by decide)]
      simp [df_law_drawn_row, keys_, e1, m2, lk, f0, hd, e2, ej, rD, hlen2]
    · refine key [a, b, 2 * i] si ?_ pi (ent_B a0 a1 b0 b1 i0 i1)
      rw [runD_out rfl (by decide)]
      simp [df_law_drawn_row, keys_, e1, m2, lk, f0, hd, e2, e3, ei, rD, hlen2]
    · refine key [a, b, i] si ?_ pi (ent_I a0 a1 b0 b1 i0 i1)
      rw [runD_out rfl (by decide)]
      simp [df_law_drawn_row, keys_, e1, m2, lk, f0, hd, e2, e3, ei, rD, hlen2]
    · refine key [a, b, i] si ?_ pi (ent_S a0 a1 b0 b1 i0 i1)
      rw [runD_out rfl (by decide)]
      simp [df_law_drawn_row, keys_, e1, m2, lk, f0, hd, e2, e3, ei, rD, hlen2]
    · refine key [a, b, c] s4 ?_ p4 (ent_R a0 a1 b0 b1 c0 c1)
      rw [runD_out rfl (by decide)]
      simp [df_law_drawn_row, keys_, e1, m2, lk, f0, hd, e2, e3, e4, rD, hlen2]
    · refine key [a, b, c] s4 ?_ p4 (ent_sh a0 a1 b0 b1 c0 c1)
      rw [runD_out rfl (by decide)]
      simp [df_law_drawn_row, keys_, e1, m2, lk, f0, hd, e2, e3, e4, rD, hlen2]
  · have hz2 : z = "ecall" ∨ z = "ebreak" := by simpa using hz
    refine ⟨(z, []), s1, ?_, p1, by rcases hz2 with rfl | rfl <;> simp [okR]⟩
    rw [decide_eq_true hz] at m2
    rw [← hn] at e1
    clear hz hz2
    (try simp at e1); (try simp at m2)
    rw [runD_out rfl (by decide)]
    simp [df_law_drawn_row, keys_, e1, m2, rD, hlen2]
end
/-! the words of rows -/
@[simp] theorem ld512 : (512 : Int) < litI := by unfold litI; omega
@[simp] theorem md512 : -litI < (512 : Int) := by unfold litI; omega
@[simp] theorem wd512 : (512 : Int) < wideI := by unfold wideI; omega
def encF (F : String) (o f3 f7 : Int) (xs : List Int) : Int :=
  let x := xs.getD 0 0
  let y := xs.getD 1 0
  let z := xs.getD 2 0
  if F = "U" then y * 4096 + x * 128 + o
  else if F = "J" then (y % 2097152 / 1048576 * 524288 + y % 2097152 / 2 % 1024 * 512 + y % 2097152 / 2048 % 2 * 256 + y % 2097152 / 4096 % 256) * 4096 + x * 128 + o
  else if F = "R" ∨ F = "shift" then f7 * 33554432 + z * 1048576 + y * 32768 + f3 * 4096 + x * 128 + o
  else if F = "I" then z % 4096 * 1048576 + y * 32768 + f3 * 4096 + x * 128 + o
  else if F = "S" then z % 4096 / 32 * 33554432 + x * 1048576 + y * 32768 + f3 * 4096 + z % 4096 % 32 * 128 + o
  else (z % 8192 / 4096 * 64 + z % 8192 / 32 % 64) * 33554432 + y * 1048576 + x * 32768 + f3 * 4096 + (z % 8192 / 2 % 16 * 2 + z % 8192 / 2048 % 2) * 128 + o
def encI (r : Row) : Int := if r.1 = "ecall" then 115 else if r.1 = "ebreak" then 1048691 else match tbL.find? (fun t => t.1 = r.1) with
  | some t => encF t.2.1 t.2.2.1 t.2.2.2.1 t.2.2.2.2 r.2
  | none => 0
theorem find_tb : ∀ t ∈ tbL, tbL.find? (fun u => u.1 = t.1) = some t := by decide +kernel
theorem encoded_ (k : Nat) (s : Sto) {r : Row} (h : okR r) : TT (k+1) "_law_encoded" [.dic tbK, rD r] s = some (.rt (.int (encI r)) false, s) := by
  rw [show TT (k+1) "_law_encoded" = runD (TT k) GG df_law_encoded from rfl, runD_out rfl (by decide)]
  rcases h with rfl | rfl | ⟨t, ht, e, h⟩
  · simp [df_law_encoded, rD, encI]
  · simp [df_law_encoded, rD, encI]
  obtain ⟨z, xs⟩ := r
  simp only at e h
  subst e
  have lk := look_ t ht
  have na := not_alone t ht
  simp only [List.mem_cons, List.not_mem_nil, or_false, not_or] at na
  have he : encI (t.1, xs) = encF t.2.1 t.2.2.1 t.2.2.2.1 t.2.2.2.2 xs := by
    unfold encI
    rw [if_neg na.1, if_neg na.2, find_tb t ht]
  rw [he]
  have hf := forms_of t ht
  clear ht he na
  obtain ⟨t1, F, o, x3, x7⟩ := t
  simp only [List.mem_cons, List.not_mem_nil, or_false] at hf
  simp only at *
  have f0 : subD (fmD (t1, F, o, x3, x7)) (.int 0) = some (sD F) := rfl
  have f1 : subD (fmD (t1, F, o, x3, x7)) (.int 1) = some (.int o) := rfl
  have f2 : subD (fmD (t1, F, o, x3, x7)) (.int 2) = some (.int x3) := rfl
  have f3 : subD (fmD (t1, F, o, x3, x7)) (.int 3) = some (.int x7) := rfl
  have hd : ∀ s, der s (fmD (t1, F, o, x3, x7)) = some (fmD (t1, F, o, x3, x7)) := fun s => rfl
  generalize fmD (t1, F, o, x3, x7) = fd at *
  unfold entOK at h
  rcases hf with rfl | rfl | rfl | rfl | rfl | rfl | rfl <;> simp at h
  · obtain ⟨a, v, rfl, h⟩ := h
    simp [df_law_encoded, rD, lk, f0, f1, f2, f3, hd, encF]
  · obtain ⟨a, v, rfl, h⟩ := h
    simp [df_law_encoded, rD, lk, f0, f1, f2, f3, hd, encF]
  all_goals (obtain ⟨a, b, c, rfl, h⟩ := h)
  · simp [df_law_encoded, rD, lk, f0, f1, f2, f3, hd, encF]
  · simp [df_law_encoded, rD, lk, f0, f1, f2, f3, hd, encF]
  · simp [df_law_encoded, rD, lk, f0, f1, f2, f3, hd, encF]
  · simp [df_law_encoded, rD, lk, f0, f1, f2, f3, hd, encF]
  · simp [df_law_encoded, rD, lk, f0, f1, f2, f3, hd, encF]
/-! the parts of a thing -/
abbrev Wn := Nm × String × Int
def wD (w : Wn) : D := .tup [w.1.D, sD w.2.1, .int w.2.2]
abbrev Fx := Nm × Int × Int × Int
def fD (f : Fx) : D := .tup [f.1.D, .int f.2.1, .int f.2.2.1, .int f.2.2.2]
abbrev Dt := Nm × Int × Int
def dD (d : Dt) : D := .tup [d.1.D, .int d.2.1, .int d.2.2]
abbrev Op := Int × String × Nm
def oD (o : Op) : D := .tup [.int o.1, sD o.2.1, o.2.2.D]
abbrev Ch := List (Nm × Int)
def pD (p : Nm × Int) : D := .tup [p.1.D, .int p.2]
def cD (c : Ch) : D := .tup (c.map pD)
abbrev Sg := Int × String × Ch
def gD (g : Sg) : D := .tup [.int g.1, sD g.2.1, cD g.2.2]
theorem fine_nm (z : Nm) (k : Nat) : z.D.fine k = true := fine_tx z.as k
theorem eqv_nm (a b : Nm) : a.D.eqv b.D = decide (a = b) := by
  show (tD a.l).eqv (tD b.l) = _
  rw [eqv_tx, decide_eq_decide]
  exact ⟨Nm.ext, fun h => by rw [h]⟩
theorem eqv_sD (a b : String) : (sD a).eqv (sD b) = decide (a = b) := by
  show decide (Str.ofString a = Str.ofString b) = _
  simp only [ofString_inj]
theorem fine_wD (w : Wn) : (wD w).fine 64 = true := by
  unfold wD
  simp [D.fine, fineL, fine_nm, fine_sD]
theorem eqv_wD (a b : Wn) : (wD a).eqv (wD b) = decide (a = b) := by
  obtain ⟨a1, a2, a3⟩ := a
  obtain ⟨b1, b2, b3⟩ := b
  show (eqvL [a1.D, sD a2, .int a3] [b1.D, sD b2, .int b3]) = _
  simp only [eqvL, eqv_nm, eqv_sD, D.eqv, ofString_inj, Bool.and_true, Prod.mk.injEq, Bool.decide_and]
theorem in_w (w : Wn) (l : List Wn) : cmpD .NotIn (wD w) (.lst (l.map wD)) = some (!decide (w ∈ l)) := by
  show (memD (wD w) (l.map wD)).map (!·) = _
  simp [memD_map fine_wD eqv_wD]
theorem in_wt (w : Wn) (l : List Wn) : cmpD .NotIn (wD w) (.tup (l.map wD)) = some (!decide (w ∈ l)) := in_w w l
theorem eq_S (a b : String) : cmpD .Eq (sD a) (sD b) = some (decide (a = b)) := by
  show eqD (sD a) (sD b) = _
  unfold eqD
  rw [fine_sD, fine_sD, eqv_sD]; rfl
theorem ne_S (a b : String) : cmpD .NotEq (sD a) (sD b) = some (!decide (a = b)) := by
  show (eqD (sD a) (sD b)).map (!·) = _
  unfold eqD
  rw [fine_sD, fine_sD, eqv_sD]; rfl
theorem nil_ne (zs : List Nm) : cmpD .NotEq (.lst (zs.map Nm.D)) (.lst []) = some (!zs.isEmpty) := by
  show (eqD (.lst (zs.map Nm.D)) (.lst [])).map (!·) = _
  unfold eqD
  have : D.fine 64 (.lst (zs.map Nm.D)) = true := by
    show fineL 63 (zs.map Nm.D) = true
    exact fineL_map (fun b => fine_nm b 63) zs
  rw [this]
  cases zs <;> rfl
@[simp] theorem der_nm (s : Sto) (z : Nm) : der s z.D = some z.D := (rfl)
@[simp] theorem der_wD (s : Sto) (z : Wn) : der s (wD z) = some (wD z) := (rfl)
@[simp] theorem der_rD (s : Sto) (z : Row) : der s (rD z) = some (rD z) := (rfl)
@[simp] theorem der_cD (s : Sto) (z : Ch) : der s (cD z) = some (cD z) := (rfl)
section
variable {n : Nat} {ns : List Int} {s s' : Sto}
theorem pickI (k : Nat) (l : List Int) (h : PA n ns s s') (hl : 0 < l.length) (hl2 : l.length < 100000) : ∃ (z : Int) (s2 : Sto), TT (k+2) "_law_pick" [.loc n, .lst (l.map D.int)] s' = some (.rt (.int z) false, s2) ∧ PA n ns s s2 ∧ z ∈ l := pickG D.int k l h hl hl2
theorem many_ (k : Nat) (h : PA n ns s s') : ∃ (r : Int) (s2 : Sto), TT (k+3) "_law_many" [.loc n] s' = some (.rt (.int r) false, s2) ∧ PA n ns s s2 ∧ 0 ≤ r ∧ r ≤ 6 := by
  rw [show TT (k+3) "_law_many" = runD (TT (k+2)) GG df_law_many from rfl]
  obtain ⟨r, s1, e1, p1, h1⟩ := pickI k [0, 0, 0, 0, 1, 1, 1, 1, 1, 2, 2, 2, 2, 3, 3, 6] h (by decide) (by decide)
  have hb : 0 ≤ r ∧ r ≤ 6 := (by decide : ∀ r ∈ [0, 0, 0, 0, 1, 1, 1, 1, 1, 2, 2, 2, 2, 3, 3, (6 : Int)], 0 ≤ r ∧ r ≤ 6) r h1
  refine ⟨r, s1, ?_, p1, hb⟩
  (try simp at e1)
  rw [runD_out rfl (by decide)]
  simp [df_law_many, e1, sizeMax]
theorem long_ (k : Nat) (h : PA n ns s s') : ∃ (r : Int) (s2 : Sto), TT (k+3) "_law_long" [.loc n] s' = some (.rt (.int r) false, s2) ∧ PA n ns s s2 ∧ 1 ≤ r ∧ r ≤ 1000 := by
  rw [show TT (k+3) "_law_long" = runD (TT (k+2)) GG df_law_long from rfl]
  obtain ⟨x, s1, e1, p1, a1, b1⟩ := draw_ (k+1) h (m := 1000) (by decide) (by decide)
  obtain ⟨r, s2, e2, p2, h2⟩ := pickI k [1, 2, 9, 10, 999, 1000, 1 + x] p1 (by simp) (by simp)
  have hb : 1 ≤ r ∧ r ≤ 1000 := by
    simp only [List.mem_cons, List.not_mem_nil, or_false] at h2
    omega
  refine ⟨r, s2, ?_, p2, hb⟩
  (try simp at e2)
  rw [runD_out rfl (by decide)]
  simp [df_law_long, e1, e2, sizeMax]
def okW (w : Wn) : Prop := (w.2.1 = "word" ∧ w.2.2 = 0) ∨ (w.2.1 = "array" ∧ 1 ≤ w.2.2 ∧ w.2.2 ≤ 1000) ∨ (w.2.1 = "function" ∧ 0 ≤ w.2.2 ∧ w.2.2 ≤ 6)
theorem want_ (k : Nat) (h : PA n ns s s') : ∃ (w : Wn) (s2 : Sto), TT (k+4) "_law_want" [.loc n] s' = some (.rt (wD w) false, s2) ∧ PA n ns s s2 ∧ okW w := by
  rw [show TT (k+4) "_law_want" = runD (TT (k+3)) GG df_law_want from rfl]
  obtain ⟨z, s1, e1, p1⟩ := title_ k h
  obtain ⟨r, s2, e2, p2, a2, b2⟩ := draw_ (k+2) p1 (m := 3) (by decide) (by decide)
  by_cases c0 : r = 0
  · refine ⟨(z, "word", 0), s2, ?_, p2, .inl ⟨rfl, rfl⟩⟩
    rw [runD_out rfl (by decide)]
    simp [df_law_want, e1, e2, c0, wD]
  by_cases c1 : r = 1
  · obtain ⟨x, s3, e3, p3, a3, b3⟩ := long_ k p2
    refine ⟨(z, "array", x), s3, ?_, p3, .inr (.inl ⟨rfl, a3, b3⟩)⟩
    rw [runD_out rfl (by decide)]
    simp [df_law_want, e1, e2, c0, c1, e3, wD]
  · obtain ⟨x, s3, e3, p3, a3, b3⟩ := draw_ (k+2) p2 (m := 7) (by decide) (by decide)
    refine ⟨(z, "function", x), s3, ?_, p3, .inr (.inr ⟨rfl, a3, by show x ≤ 6; omega⟩)⟩
    rw [runD_out rfl (by decide)]
    simp [df_law_want, e1, e2, c0, c1, e3, wD]
theorem word_ (k : Nat) (h : PA n ns s s') : ∃ r s2, TT (k+2) "_law_word" [.loc n] s' = some (.rt (.int r) false, s2) ∧ PA n ns s s2 ∧ -2147483648 ≤ r ∧ r ≤ 2147483647 := word_pa (t_draw k) h
def okD (d : Dt) : Prop := (d.2.1 = 0 ∧ -2147483648 ≤ d.2.2 ∧ d.2.2 ≤ 2147483647) ∨ (1 ≤ d.2.1 ∧ d.2.1 ≤ 1000 ∧ d.2.2 = 0)
theorem datum_ (k : Nat) (h : PA n ns s s') : ∃ (d : Dt) (s2 : Sto), TT (k+4) "_law_datum" [.loc n] s' = some (.rt (dD d) false, s2) ∧ PA n ns s s2 ∧ okD d := by
  rw [show TT (k+4) "_law_datum" = runD (TT (k+3)) GG df_law_datum from rfl]
  obtain ⟨z, s1, e1, p1⟩ := title_ k h
  obtain ⟨r, s2, e2, p2, a2, b2⟩ := draw_ (k+2) p1 (m := 2) (by decide) (by decide)
  by_cases c0 : r = 0
  · obtain ⟨x, s3, e3, p3, a3, b3⟩ := word_ (k+1) p2
    refine ⟨(z, 0, x), s3, ?_, p3, .inl ⟨rfl, a3, b3⟩⟩
    rw [runD_out rfl (by decide)]
    simp [df_law_datum, e1, e2, c0, e3, dD]
  · obtain ⟨x, s3, e3, p3, a3, b3⟩ := long_ k p2
    refine ⟨(z, x, 0), s3, ?_, p3, .inr ⟨a3, b3, rfl⟩⟩
    rw [runD_out rfl (by decide)]
    simp [df_law_datum, e1, e2, c0, e3, dD]
theorem chain_loop (k : Nat) (js : List D) (l : Ch) (q3 q4 t : Sl) (h : PA n ns s s') (hj : l.length + js.length ≤ 100) :
    ∃ (l' : Ch) (t' q3' q4' : Sl) (s2 : Sto), forL (turn (TT (k+3)) GG (.nm 2) lb_law_chain_1) js [.fr (.loc n), .ow (.lst (l.map pD)), t, q3, q4] s' = .ok .nx [.fr (.loc n), .ow (.lst (l'.map pD)), t', q3', q4'] s2 ∧ PA n ns s s2 ∧ l'.length ≤ 100 ∧ l.length + js.length = l'.length ∧ ((∀ p ∈ l, 0 ≤ p.2 ∧ p.2 < 200) → ∀ p ∈ l', 0 ≤ p.2 ∧ p.2 < 200) := by
  induction js generalizing l t q3 q4 s' with
  | nil => exact ⟨l, t, q3, q4, s', rfl, h, by simpa using hj, by simp, fun h => h⟩
  | cons j js ih =>
    obtain ⟨z, s1, e1, p1⟩ := title_ k h
    obtain ⟨x, s2, e2, p2, a2, b2⟩ := draw_ (k+2) p1 (m := 200) (by decide) (by decide)
    obtain ⟨y, s3, e3, p3, h3⟩ := pickI (k+1) [0, 9, 10, 199, x] p2 (by simp) (by simp)
    have hb : 0 ≤ y ∧ y < 200 := by
      simp only [List.mem_cons, List.not_mem_nil, or_false] at h3
      omega
    simp only [List.length_cons] at hj
    obtain ⟨l', t', q3', q4', s4, e4, p4, l4, m4, b4⟩ := ih (l ++ [(z, y)]) (.fr z.D) (.fr (.lst ([0, 9, 10, 199, x].map D.int))) (.fr j) p3 (by simp; omega)
    refine ⟨l', t', q3', q4', s4, ?_, p4, l4, by simp at m4 ⊢; omega, fun hl => b4 fun p hp => ?_⟩
    · have hl : l.length < 16777216 := by omega
      have tn : turn (TT (k+3)) GG (.nm 2) lb_law_chain_1 j [.fr (.loc n), .ow (.lst (l.map pD)), t, q3, q4] s' = .ok .nx [.fr (.loc n), .ow (.lst ((l ++ [(z, y)]).map pD)), .fr j, .fr z.D, .fr (.lst ([0, 9, 10, 199, x].map D.int))] s3 := by
        (try simp at e3)
        simp [lb_law_chain_1, e1, e2, e3, hl, sizeMax, pD]
      rw [forL_cons, tn, R.bind_ok, kTn_nx, e4]
    · rcases List.mem_append.mp hp with hp | hp
      · exact hl p hp
      · simp at hp; subst hp; exact hb
def okC (c : Ch) : Prop := 1 ≤ c.length ∧ c.length ≤ 8 ∧ ∀ p ∈ c, 0 ≤ p.2 ∧ p.2 < 200
theorem chain_ (k : Nat) (h : PA n ns s s') : ∃ (c : Ch) (s2 : Sto), TT (k+4) "_law_chain" [.loc n] s' = some (.rt (cD c) false, s2) ∧ PA n ns s s2 ∧ okC c := by
  rw [show TT (k+4) "_law_chain" = runD (TT (k+3)) GG df_law_chain from rfl]
  obtain ⟨r, s1, e1, p1, h1⟩ := pickI (k+1) [1, 1, 2, 3, 8] h (by decide) (by decide)
  have hb : 1 ≤ r ∧ r ≤ 8 := (by decide : ∀ r ∈ [1, 1, 2, 3, (8 : Int)], 1 ≤ r ∧ r ≤ 8) r h1
  have hl : (rangeL 0 r).length = r.toNat := by simp [rangeL]
  obtain ⟨c, t, q3, q4, s2, e2, p2, l2, m2, b2⟩ := chain_loop k (rangeL 0 r) [] .un .un .un p1 (by rw [hl]; simp; omega)
  rw [hl] at m2
  simp at m2
  refine ⟨c, s2, ?_, p2, by omega, by omega, b2 (by simp)⟩
  have hs : small62 r = true := by simp [small62]; omega
  (try simp at e1); (try simp at e2)
  rw [runD_out rfl (by decide)]
  simp [df_law_chain, e1, e2, hs, cD, sizeMax]
def okO (kd : String) : Prop := kd ∈ ["", "call", "high", "low"]
theorem open_row_ (k : Nat) (h : PA n ns s s') (cs os : List Nm) (hc : cs.length < 1000) (ho : os.length < 1000) :
    ∃ (r : Row) (kd : String) (z : Nm) (s2 : Sto), TT (k+3) "_law_open_row" [.loc n, .lst (cs.map Nm.D), .lst (os.map Nm.D)] s' = some (.rt (.tup [rD r, sD kd, z.D]) false, s2) ∧ PA n ns s s2 ∧ okR r ∧ kd ∈ ["", "call", "high", "low"] := by
  rw [show TT (k+3) "_law_open_row" = runD (TT (k+2)) GG df_law_open_row from rfl]
  obtain ⟨x, s1, e1, p1, a1, b1⟩ := draw_ (k+1) h (m := 5) (by decide) (by decide)
  obtain ⟨a, s2, e2, p2, a2, b2⟩ := draw_ (k+1) p1 (m := 32) (by decide) (by decide)
  obtain ⟨b, s3, e3, p3, a3, b3⟩ := draw_ (k+1) p2 (m := 32) (by decide) (by decide)
  have c1 := nil_ne cs
  have c2 := nil_ne os
  have hnil : ∃ m : Nm, sD "" = m.D := nm_lit (by decide +kernel)
  obtain ⟨mz, hmz⟩ := hnil
  by_cases q1 : x = 0 ∧ cs ≠ []
  · obtain ⟨q0, q1⟩ := q1
    have hz : cs.isEmpty = false := by simpa using q1
    obtain ⟨z, s4, e4, p4, h4⟩ := pickG Nm.D k cs p3 (by cases cs <;> simp_all) (by omega)
    refine ⟨("jal", [a, 2 * 0]), "call", z, s4, ?_, p4, .inr (.inr ⟨("jal", "J", 111, 0, 0), by simp [tbL], rfl, ent_J a2 b2 (by decide) (by decide)⟩), by simp⟩
    generalize cs.map Nm.D = cl at *
    rw [runD_out rfl (by decide)]
    simp [df_law_open_row, e1, e2, e3, q0, c1, hz, e4, rD]
  by_cases q2 : x = 1 ∧ os ≠ []
  · obtain ⟨q0, q2⟩ := q2
    have hz : os.isEmpty = false := by simpa using q2
    obtain ⟨z, s4, e4, p4, h4⟩ := pickG Nm.D k os p3 (by cases os <;> simp_all) (by omega)
    refine ⟨("lui", [a, 0]), "high", z, s4, ?_, p4, .inr (.inr ⟨("lui", "U", 55, 0, 0), by simp [tbL], rfl, ent_U a2 b2 (by decide) (by decide)⟩), by simp⟩
    generalize os.map Nm.D = cl at *
    rw [runD_out rfl (by decide)]
    simp [df_law_open_row, e1, e2, e3, q0, c2, hz, e4, rD]
  by_cases q3 : 1 < x ∧ os ≠ []
  · obtain ⟨q0, q3⟩ := q3
    have hz : os.isEmpty = false := by simpa using q3
    obtain ⟨z, s4, e4, p4, h4⟩ := pickG Nm.D k os p3 (by cases os <;> simp_all) (by omega)
    have hx : x = 2 ∨ x = 3 ∨ x = 4 := by omega
    generalize os.map Nm.D = cl at *
    rcases hx with rfl | rfl | rfl
    · refine ⟨("addi", [a, b, 0]), "low", z, s4, ?_, p4, .inr (.inr ⟨("addi", "I", 19, 0, 0), by simp [tbL], rfl, ent_I a2 b2 a3 b3 (by decide) (by decide)⟩), by simp⟩
      rw [runD_out rfl (by decide)]
      simp [df_law_open_row, e1, e2, e3, c2, hz, e4, rD, sizeMax]
    · refine ⟨("lw", [a, b, 0]), "low", z, s4, ?_, p4, .inr (.inr ⟨("lw", "I", 3, 2, 0), by simp [tbL], rfl, ent_I a2 b2 a3 b3 (by decide) (by decide)⟩), by simp⟩
      rw [runD_out rfl (by decide)]
      simp [df_law_open_row, e1, e2, e3, c2, hz, e4, rD, sizeMax]
    · refine ⟨("sw", [a, b, 0]), "low", z, s4, ?_, p4, .inr (.inr ⟨("sw", "S", 35, 2, 0), by simp [tbL], rfl, ent_S a2 b2 a3 b3 (by decide) (by decide)⟩), by simp⟩
      rw [runD_out rfl (by decide)]
      simp [df_law_open_row, e1, e2, e3, c2, hz, e4, rD, sizeMax]
  · refine ⟨("addi", [a, b, 0]), "", mz, s3, ?_, p3, .inr (.inr ⟨("addi", "I", 19, 0, 0), by simp [tbL], rfl, ent_I a2 b2 a3 b3 (by decide) (by decide)⟩), by simp⟩
    rw [← hmz]
    have c1' : x = 0 → cs.isEmpty = true := fun q => by simpa [q] using q1
    have c2' : x = 1 → os.isEmpty = true := fun q => by simpa [q] using q2
    have c3' : 1 < x → os.isEmpty = true := fun q => by simpa [q] using q3
    generalize cs.map Nm.D = cl at *
    generalize os.map Nm.D = ol at *
    rw [runD_out rfl (by decide)]
    by_cases x0 : x = 0
    · subst x0
      simp [df_law_open_row, e1, e2, e3, c1, c2, c1', rD]
    by_cases x1 : x = 1
    · subst x1
      simp [df_law_open_row, e1, e2, e3, c1, c2, c2', rD]
    · have x2 : 1 < x := by omega
      simp [df_law_open_row, e1, e2, e3, c1, c2, x0, x1, x2, c3' x2, rD]
end
/-! a thing in the store -/
structure Th where
  rows : List Row
  defs : List Fx
  outer : List Dt
  wants : List Wn
  opn : List Op
  signs : List Sg
def Th.sz (t : Th) : Nat := t.rows.length + t.defs.length + t.outer.length + t.wants.length + t.opn.length + t.signs.length
structure Th.ok (t : Th) : Prop where
  rows : ∀ r ∈ t.rows, okR r
  signs : ∀ g ∈ t.signs, okC g.2.2
  wants : ∀ w ∈ t.wants, okW w
def dcD (a : Nat) : D := .dic [(sD "rows", .loc a), (sD "defs", .loc (a+1)), (sD "outer", .loc (a+2)), (sD "wants", .loc (a+3)), (sD "open", .loc (a+4)), (sD "signs", .loc (a+5))]
def Th.L (a : Nat) (t : Th) : List D := [.lst (t.rows.map rD), .lst (t.defs.map fD), .lst (t.outer.map dD), .lst (t.wants.map wD), .lst (t.opn.map oD), .lst (t.signs.map gD), dcD a]
@[simp] theorem L_len (a : Nat) (t : Th) : (t.L a).length = 7 := (rfl)
def PT (n : Nat) (ns : List Int) (b c : Sto) (t : Th) (s' : Sto) : Prop := n < b.length ∧ PA n ns (b ++ (t.L b.length ++ c)) s'
section
variable {n : Nat} {ns : List Int} {b c s' : Sto} {t : Th}
theorem PT.at (h : PT n ns b c t s') (i : Nat) (hi : i < 7) : s'[b.length + i]? = (t.L b.length)[i]? := by
  obtain ⟨hn, h1, h2, i', v, d, hi', hv, hd, rfl⟩ := h
  rw [List.getElem?_set_ne (by omega), List.getElem?_append_right (by omega), show b.length + i - b.length = i by omega, List.getElem?_append_left (by simpa using hi)]
theorem PT.put (h : PT n ns b c t s') (i : Nat) (hi : i < 7) (x : D) (t' : Th) (e : (t.L b.length).set i x = t'.L b.length) : PT n ns b c t' (s'.set (b.length + i) x) := by
  obtain ⟨hn, h1, h2, i', v, d, hi', hv, hd, rfl⟩ := h
  have e2 : (b ++ (t.L b.length ++ c)).set (b.length + i) x = b ++ (t'.L b.length ++ c) := by
    rw [List.set_append_right _ _ (by omega), show b.length + i - b.length = i by omega, List.set_append_left _ _ (by simpa using hi), e]
  refine ⟨hn, by simp; omega, h2, i', v, d, hi', hv, hd, ?_⟩
  rw [List.set_comm _ _ (by omega), e2]
theorem PT.a0 (h : PT n ns b c t s') : s'[b.length]? = some (.lst (t.rows.map rD)) := h.at 0 (by decide)
theorem PT.a1 (h : PT n ns b c t s') : s'[b.length + 1]? = some (.lst (t.defs.map fD)) := h.at 1 (by decide)
theorem PT.a2 (h : PT n ns b c t s') : s'[b.length + 2]? = some (.lst (t.outer.map dD)) := h.at 2 (by decide)
theorem PT.a3 (h : PT n ns b c t s') : s'[b.length + 3]? = some (.lst (t.wants.map wD)) := h.at 3 (by decide)
theorem PT.a4 (h : PT n ns b c t s') : s'[b.length + 4]? = some (.lst (t.opn.map oD)) := h.at 4 (by decide)
theorem PT.a5 (h : PT n ns b c t s') : s'[b.length + 5]? = some (.lst (t.signs.map gD)) := h.at 5 (by decide)
theorem PT.a6 (h : PT n ns b c t s') : s'[b.length + 6]? = some (dcD b.length) := h.at 6 (by decide)
theorem PT.p0 (h : PT n ns b c t s') (r : Row) : PT n ns b c { t with rows := t.rows ++ [r] } (s'.set b.length (.lst (t.rows.map rD ++ [rD r]))) := h.put 0 (by decide) _ _ (by simp [Th.L])
theorem PT.p1 (h : PT n ns b c t s') (r : Fx) : PT n ns b c { t with defs := t.defs ++ [r] } (s'.set (b.length + 1) (.lst (t.defs.map fD ++ [fD r]))) := h.put 1 (by decide) _ _ (by simp [Th.L])
theorem PT.p2 (h : PT n ns b c t s') (r : Dt) : PT n ns b c { t with outer := t.outer ++ [r] } (s'.set (b.length + 2) (.lst (t.outer.map dD ++ [dD r]))) := h.put 2 (by decide) _ _ (by simp [Th.L])
theorem PT.p3 (h : PT n ns b c t s') (r : Wn) : PT n ns b c { t with wants := t.wants ++ [r] } (s'.set (b.length + 3) (.lst (t.wants.map wD ++ [wD r]))) := h.put 3 (by decide) _ _ (by simp [Th.L])
theorem PT.p3i (h : PT n ns b c t s') (i : Nat) (r : Wn) : PT n ns b c { t with wants := t.wants.take i ++ r :: t.wants.drop i } (s'.set (b.length + 3) (.lst ((t.wants.map wD).take i ++ wD r :: (t.wants.map wD).drop i))) := h.put 3 (by decide) _ _ (by simp [Th.L, List.map_take, List.map_drop])
theorem PT.p4 (h : PT n ns b c t s') (r : Op) : PT n ns b c { t with opn := t.opn ++ [r] } (s'.set (b.length + 4) (.lst (t.opn.map oD ++ [oD r]))) := h.put 4 (by decide) _ _ (by simp [Th.L])
theorem PT.p5 (h : PT n ns b c t s') (r : Sg) : PT n ns b c { t with signs := t.signs ++ [r] } (s'.set (b.length + 5) (.lst (t.signs.map gD ++ [gD r]))) := h.put 5 (by decide) _ _ (by simp [Th.L])
def Grow (t t' : Th) (m : Nat) : Prop := t'.defs = t.defs ∧ t'.outer = t.outer ∧ t'.wants = t.wants ∧ t'.sz ≤ t.sz + m ∧ (t.ok → t'.ok)
def ssHd : Ss → S
  | .cons a _ => a
  | .nil => .nev
def ssTl : Ss → Ss
  | .cons _ r => r
  | .nil => .nil
def ow_a : S := ssHd df_law_one_word.body
def ow_b : S := ssHd (ssTl df_law_one_word.body)
def ow_c : S := ssHd (ssTl (ssTl df_law_one_word.body))
theorem ow_body : df_law_one_word.body = .cons ow_a (.cons ow_b (.cons ow_c .nil)) := rfl
theorem ow_b_ (k : Nat) (h : PT n ns b c t s') (cs os : List Nm) (hc : cs.length < 1000) (ho : os.length < 1000) (hz : t.sz < 100000) (at_ : Int) :
    ∃ (t' : Th) (q6 : Sl) (s2 : Sto), xS (TT (k+3)) GG ow_b [.fr (.loc n), .fr (.dic tbK), .fr (.loc (b.length+6)), .fr (.lst (cs.map Nm.D)), .fr (.lst (os.map Nm.D)), .fr (.int at_), .un, .un] s' = .ok .nx [.fr (.loc n), .fr (.dic tbK), .fr (.loc (b.length+6)), .fr (.lst (cs.map Nm.D)), .fr (.lst (os.map Nm.D)), .fr (.int at_), q6, .un] s2 ∧ PT n ns b c t' s2 ∧ Grow t t' 2 ∧ t'.rows.length = t.rows.length + 1 := by
  obtain ⟨x, s1, e1, p1, a1, b1⟩ := draw_ (k+2) h.2 (m := 3) (by decide) (by decide)
  have hz1 : t.rows.length < sizeMax := by unfold sizeMax; unfold Th.sz at hz; omega
  have hz2 : t.opn.length < sizeMax := by unfold sizeMax; unfold Th.sz at hz; omega
  by_cases q : x = 0
  · obtain ⟨r, kd, z, s2, e2, p2, hr, hk⟩ := open_row_ k p1 cs os hc ho
    have h2 : PT n ns b c t s2 := ⟨h.1, p2⟩
    have h3 := h2.p0 r
    have f0 := h2.a0
    have f4 := h2.a4
    have f6 := h2.a6
    have g4 := h3.a4
    have g6 := h3.a6
    have ne := ne_S kd ""
    by_cases qk : kd = ""
    · refine ⟨_, .fr (.tup [rD r, sD kd, z.D]), _, ?_, h3, ⟨rfl, rfl, rfl, by simp [Th.sz]; omega, fun o => ⟨fun r' hr' => ?_, o.signs, o.wants⟩⟩, by simp⟩
      · generalize cs.map Nm.D = cl at *
        generalize os.map Nm.D = ol at *
        subst qk
        simp [ow_b, ssHd, ssTl, df_law_one_word, e1, q, e2, f0, f6, dcD, hz1]
      · rcases List.mem_append.mp hr' with hr' | hr'
        · exact o.rows _ hr'
        · simp at hr'; subst hr'; exact hr
    · have h4 := h3.p4 (at_, kd, z)
      refine ⟨_, .fr (.tup [rD r, sD kd, z.D]), _, ?_, h4, ⟨rfl, rfl, rfl, by simp [Th.sz]; omega, fun o => ⟨fun r' hr' => ?_, o.signs, o.wants⟩⟩, by simp⟩
      · generalize cs.map Nm.D = cl at *
        generalize os.map Nm.D = ol at *
        (try simp at ne)
        simp [ow_b, ssHd, ssTl, df_law_one_word, e1, q, e2, f0, f6, f4, dcD, hz1, hz2, ne, qk, oD]
      · rcases List.mem_append.mp hr' with hr' | hr'
        · exact o.rows _ hr'
        · simp at hr'; subst hr'; exact hr
  · obtain ⟨r, s2, e2, p2, hr⟩ := drawn_row_ k p1
    have h2 : PT n ns b c t s2 := ⟨h.1, p2⟩
    have h1 : PT n ns b c t s1 := ⟨h.1, p1⟩
    have h3 := h2.p0 r
    have f0 := h2.a0
    have f6 := h1.a6
    have f1 := h1.a0
    refine ⟨_, .un, _, ?_, h3, ⟨rfl, rfl, rfl, by simp [Th.sz]; omega, fun o => ⟨fun r' hr' => ?_, o.signs, o.wants⟩⟩, by simp⟩
    · generalize cs.map Nm.D = cl at *
      generalize os.map Nm.D = ol at *
      simp [ow_b, ssHd, ssTl, df_law_one_word, e1, q, e2, f0, f6, f1, dcD, hz1]
    · rcases List.mem_append.mp hr' with hr' | hr'
      · exact o.rows _ hr'
      · simp at hr'; subst hr'; exact hr
theorem ow_c_ (k : Nat) (h : PT n ns b c t s') {q3 q4 q6 : Sl} (hz : t.sz < 100000) (at_ : Int) :
    ∃ (t' : Th) (q7 : Sl) (s2 : Sto), xS (TT (k+4)) GG ow_c [.fr (.loc n), .fr (.dic tbK), .fr (.loc (b.length+6)), q3, q4, .fr (.int at_), q6, .un] s' = .ok .nx [.fr (.loc n), .fr (.dic tbK), .fr (.loc (b.length+6)), q3, q4, .fr (.int at_), q6, q7] s2 ∧ PT n ns b c t' s2 ∧ Grow t t' 1 ∧ t'.rows = t.rows := by
  obtain ⟨x, s1, e1, p1, a1, b1⟩ := draw_ (k+3) h.2 (m := 3) (by decide) (by decide)
  have hz1 : t.signs.length < sizeMax := by unfold sizeMax; unfold Th.sz at hz; omega
  by_cases q : x = 0
  · obtain ⟨kd, s2, e2, p2, hk⟩ := pickG sD (k+2) ["tell", "call", "divide", "index", "depth"] p1 (by decide) (by decide)
    obtain ⟨ch, s3, e3, p3, h3⟩ := chain_ k p2
    have i2 : PT n ns b c t s2 := ⟨h.1, p2⟩
    have i3 : PT n ns b c t s3 := ⟨h.1, p3⟩
    have h4 := i3.p5 (at_, kd, ch)
    have f5 := i2.a5
    have f6 := i2.a6
    have g5 := i3.a5
    refine ⟨_, .fr (sD kd), _, ?_, h4, ⟨rfl, rfl, rfl, by simp [Th.sz]; omega, fun o => ⟨o.rows, fun r' hr' => ?_, o.wants⟩⟩, rfl⟩
    · (try simp at e2)
      simp [ow_c, ssHd, ssTl, df_law_one_word, e1, q, e2, e3, f5, f6, g5, dcD, hz1, gD]
    · rcases List.mem_append.mp hr' with hr' | hr'
      · exact o.signs _ hr'
      · simp at hr'; subst hr'; exact h3
  · refine ⟨t, .un, s1, ?_, ⟨h.1, p1⟩, ⟨rfl, rfl, rfl, by omega, id⟩, rfl⟩
    simp [ow_c, ssHd, ssTl, df_law_one_word, e1, q]
theorem one_word_ (k : Nat) (h : PT n ns b c t s') (cs os : List Nm) (hc : cs.length < 1000) (ho : os.length < 1000) (hz : t.sz < 90000) :
    ∃ (t' : Th) (s2 : Sto), TT (k+5) "_law_one_word" [.loc n, .dic tbK, .loc (b.length+6), .lst (cs.map Nm.D), .lst (os.map Nm.D)] s' = some (.rt .none false, s2) ∧ PT n ns b c t' s2 ∧ Grow t t' 3 := by
  rw [show TT (k+5) "_law_one_word" = runD (TT (k+4)) GG df_law_one_word from rfl]
  obtain ⟨t1, q6, s1, e1, p1, g1, l1⟩ := ow_b_ (k+1) h cs os hc ho (by omega) t.rows.length
  obtain ⟨t2, q7, s2, e2, p2, g2, l2⟩ := ow_c_ k p1 (q3 := .fr (.lst (cs.map Nm.D))) (q4 := .fr (.lst (os.map Nm.D))) (q6 := q6) (by have := g1.2.2.2.1; omega) t.rows.length
  refine ⟨t2, s2, ?_, p2, ?_⟩
  · have f0 := h.a0
    have f6 := h.a6
    have e0 : xS (TT (k+4)) GG ow_a [.fr (.loc n), .fr (.dic tbK), .fr (.loc (b.length+6)), .fr (.lst (cs.map Nm.D)), .fr (.lst (os.map Nm.D)), .un, .un, .un] s' = .ok .nx [.fr (.loc n), .fr (.dic tbK), .fr (.loc (b.length+6)), .fr (.lst (cs.map Nm.D)), .fr (.lst (os.map Nm.D)), .fr (.int t.rows.length), .un, .un] s' := by
      generalize cs.map Nm.D = cl at *
      generalize os.map Nm.D = ol at *
      simp [ow_a, ssHd, ssTl, df_law_one_word, f0, f6, dcD]
    rw [runD_out rfl (by decide), ow_body]
    show outD (xL _ _ _ [.fr (.loc n), .fr (.dic tbK), .fr (.loc (b.length+6)), .fr (.lst (cs.map Nm.D)), .fr (.lst (os.map Nm.D)), .un, .un, .un] s') = _
    simp only [xL_cons, e0, R.bind_ok, e1, e2, kL_nx, xL_nil]
    rfl
  · obtain ⟨a1, a2, a3, a4, a5⟩ := g1
    obtain ⟨b1, b2, b3, b4, b5⟩ := g2
    exact ⟨by rw [b1, a1], by rw [b2, a2], by rw [b3, a3], by omega, fun o => b5 (a5 o)⟩
end
/-! a thing is drawn -/
theorem isL_simp {s : Sto} {n : Nat} {xs : List D} (h : s[n]? = some (.lst xs)) : isL s n xs = true := isL_of h
section
variable {n : Nat} {ns : List Int} {b c s' : Sto} {t : Th}
/-- drawn, and less than m things -/
def PS_ (n : Nat) (ns : List Int) (b : Sto) (m : Nat) (s' : Sto) : Prop := ∃ t, PT n ns b [] t s' ∧ t.ok ∧ t.sz ≤ m
theorem th_loop1 (k : Nat) {q5 q6 q7 q8 q9 q10 qt : Sl} (xs : List D) (m : Nat) (q : Sl × Sl) (s' : Sto) (h : PS_ n ns b m s') (hx : m + xs.length ≤ 1000) :
    ∃ (q' : Sl × Sl) (s2 : Sto), forL (turn (TT (k+4)) GG (.nm 3) lb_law_thing_1) xs [.fr (.loc n), qt, .fr (.loc (b.length+6)), q.1, q.2, q5, q6, q7, q8, q9, q10] s' = .ok .nx [.fr (.loc n), qt, .fr (.loc (b.length+6)), q'.1, q'.2, q5, q6, q7, q8, q9, q10] s2 ∧ PS_ n ns b (m + xs.length) s2 := by
  obtain ⟨q', s2, e, p⟩ := loop_run (f := turn (TT (k+4)) GG (.nm 3) lb_law_thing_1) (fun q : Sl × Sl => [.fr (.loc n), qt, .fr (.loc (b.length+6)), q.1, q.2, q5, q6, q7, q8, q9, q10]) (fun i _ s => PS_ n ns b (m + i) s) xs 0 q s' h (fun i x hx2 q s ⟨t, hp, ho, hz⟩ => by
    obtain ⟨w, s1, e1, p1, hw⟩ := want_ k hp.2
    have hp1 : PT n ns b [] t s1 := ⟨hp.1, p1⟩
    have f3 := hp1.a3
    have f6 := hp1.a6
    have hi : i < xs.length := (List.getElem?_eq_some_iff.mp hx2).1
    have hl : t.wants.length < sizeMax := by unfold sizeMax; unfold Th.sz at hz; omega
    have iw := in_w w t.wants
    by_cases hm : w ∈ t.wants
    · refine ⟨(.fr x, .fr (wD w)), s1, .inl ?_, t, hp1, ho, by omega⟩
      rw [decide_eq_true hm] at iw
      simp [lb_law_thing_1, e1, f3, f6, dcD, iw]
    · refine ⟨(.fr x, .fr (wD w)), s1.set (b.length + 3) (.lst (t.wants.map wD ++ [wD w])), .inl ?_, _, hp1.p3 w, ⟨ho.rows, ho.signs, fun w' hw' => ?_⟩, by simp [Th.sz] at hz ⊢; omega⟩
      · rw [decide_eq_false hm] at iw
        simp [lb_law_thing_1, e1, f3, f6, dcD, iw, hl]
      · rcases List.mem_append.mp hw' with hw' | hw'
        · exact ho.wants _ hw'
        · simp at hw'; subst hw'; exact hw)
  exact ⟨q', s2, e, by simpa using p⟩
theorem th_loop2 (k : Nat) {q4 q5 q6 q7 q8 q9 q10 qt : Sl} (xs : List D) (m : Nat) (q : Sl) (s' : Sto) (h : PS_ n ns b m s') (hx : m + xs.length ≤ 1000) :
    ∃ (q' : Sl) (s2 : Sto), forL (turn (TT (k+4)) GG (.nm 3) lb_law_thing_2) xs [.fr (.loc n), qt, .fr (.loc (b.length+6)), q, q4, q5, q6, q7, q8, q9, q10] s' = .ok .nx [.fr (.loc n), qt, .fr (.loc (b.length+6)), q', q4, q5, q6, q7, q8, q9, q10] s2 ∧ PS_ n ns b (m + xs.length) s2 := by
  obtain ⟨q', s2, e, p⟩ := loop_run (f := turn (TT (k+4)) GG (.nm 3) lb_law_thing_2) (fun q : Sl => [.fr (.loc n), qt, .fr (.loc (b.length+6)), q, q4, q5, q6, q7, q8, q9, q10]) (fun i _ s => PS_ n ns b (m + i) s) xs 0 q s' h (fun i x hx2 q s ⟨t, hp, ho, hz⟩ => by
    obtain ⟨d, s1, e1, p1, hd⟩ := datum_ k hp.2
    have hp1 : PT n ns b [] t s1 := ⟨hp.1, p1⟩
    have f2 := hp1.a2
    have g2 := hp.a2
    have f6 := hp.a6
    have hi : i < xs.length := (List.getElem?_eq_some_iff.mp hx2).1
    have hl : t.outer.length < sizeMax := by unfold sizeMax; unfold Th.sz at hz; omega
    refine ⟨.fr x, s1.set (b.length + 2) (.lst (t.outer.map dD ++ [dD d])), .inl ?_, _, hp1.p2 d, ⟨ho.rows, ho.signs, ho.wants⟩, by simp [Th.sz] at hz ⊢; omega⟩
    simp [lb_law_thing_2, e1, f2, g2, f6, dcD, hl])
  exact ⟨q', s2, e, by simpa using p⟩
theorem th_loop3 (k : Nat) {q4 q8 q9 q10 qt : Sl} {s : Sto} (xs : List D) (hs : List Dt) (q3 q6 q7 : Sl) (h : PA n ns s s') (hx : hs.length + xs.length ≤ 1000) :
    ∃ (hs' : List Dt) (q3' q6' q7' : Sl) (s2 : Sto), forL (turn (TT (k+3)) GG (.nm 3) lb_law_thing_3) xs [.fr (.loc n), qt, .fr (.loc (b.length+6)), q3, q4, .ow (.lst (hs.map dD)), q6, q7, q8, q9, q10] s' = .ok .nx [.fr (.loc n), qt, .fr (.loc (b.length+6)), q3', q4, .ow (.lst (hs'.map dD)), q6', q7', q8, q9, q10] s2 ∧ PA n ns s s2 ∧ hs'.length = hs.length + xs.length := by
  induction xs generalizing hs q3 q6 q7 s' with
  | nil => exact ⟨hs, q3, q6, q7, s', rfl, h, by simp⟩
  | cons x xs ih =>
    obtain ⟨z, s1, e1, p1⟩ := title_ k h
    obtain ⟨a, s2, e2, p2, a0, a1⟩ := draw_ (k+2) p1 (m := 7) (by decide) (by decide)
    obtain ⟨f, s3, e3, p3, f0, f1⟩ := draw_ (k+2) p2 (m := 511) (by decide) (by decide)
    simp only [List.length_cons] at hx
    obtain ⟨hs', q3', q6', q7', s4, e4, p4, l4⟩ := ih (hs ++ [(z, a, 4 * (1 + f))]) (.fr x) (.fr z.D) (.fr (.int a)) p3 (by simp; omega)
    refine ⟨hs', q3', q6', q7', s4, ?_, p4, by simp at l4 ⊢; omega⟩
    have hl : hs.length < sizeMax := by unfold sizeMax; omega
    have tn : turn (TT (k+3)) GG (.nm 3) lb_law_thing_3 x [.fr (.loc n), qt, .fr (.loc (b.length+6)), q3, q4, .ow (.lst (hs.map dD)), q6, q7, q8, q9, q10] s' = .ok .nx [.fr (.loc n), qt, .fr (.loc (b.length+6)), .fr x, q4, .ow (.lst ((hs ++ [(z, a, 4 * (1 + f))]).map dD)), .fr z.D, .fr (.int a), q8, q9, q10] s3 := by
      simp [lb_law_thing_3, e1, e2, e3, hl, dD]
    rw [forL_cons, tn, R.bind_ok, kTn_nx, e4]
def OF (q : Sl) (l : List D) : Prop := q = .ow (.lst l) ∨ q = .fr (.lst l)
theorem th_loop4 (k : Nat) {q4 q5 q6 q7 q10 : Sl} (cs os : List Nm) (hc : cs.length < 1000) (ho : os.length < 1000) (xs : List D) (m : Nat) (q : Sl × Sl × Sl) (hq : OF q.2.1 (cs.map Nm.D) ∧ OF q.2.2 (os.map Nm.D)) (s' : Sto) (h : PS_ n ns b m s') (hx : m + 3 * xs.length ≤ 1000) :
    ∃ (q' : Sl × Sl × Sl) (s2 : Sto), forL (turn (TT (k+5)) GG (.nm 3) lb_law_thing_8) xs [.fr (.loc n), .fr (.dic tbK), .fr (.loc (b.length+6)), q.1, q4, q5, q6, q7, q.2.1, q.2.2, q10] s' = .ok .nx [.fr (.loc n), .fr (.dic tbK), .fr (.loc (b.length+6)), q'.1, q4, q5, q6, q7, q'.2.1, q'.2.2, q10] s2 ∧ PS_ n ns b (m + 3 * xs.length) s2 ∧ OF q'.2.1 (cs.map Nm.D) ∧ OF q'.2.2 (os.map Nm.D) := by
  obtain ⟨q', s2, e, p⟩ := loop_run (f := turn (TT (k+5)) GG (.nm 3) lb_law_thing_8) (fun q : Sl × Sl × Sl => [.fr (.loc n), .fr (.dic tbK), .fr (.loc (b.length+6)), q.1, q4, q5, q6, q7, q.2.1, q.2.2, q10]) (fun i q s => PS_ n ns b (m + 3 * i) s ∧ OF q.2.1 (cs.map Nm.D) ∧ OF q.2.2 (os.map Nm.D)) xs 0 q s' ⟨h, hq⟩ (fun i x hx2 q s ⟨⟨t, hp, ht, hz⟩, o8, o9⟩ => by
    have hi : i < xs.length := (List.getElem?_eq_some_iff.mp hx2).1
    obtain ⟨t', s1, e1, p1, g1⟩ := one_word_ k hp cs os hc ho (by omega)
    refine ⟨(.fr x, .fr (.lst (cs.map Nm.D)), .fr (.lst (os.map Nm.D))), s1, .inl ?_, ⟨t', p1, g1.2.2.2.2 ht, by have := g1.2.2.2.1; omega⟩, .inr rfl, .inr rfl⟩
    obtain ⟨q3, q8, q9⟩ := q
    unfold OF at o8 o9
    generalize cs.map Nm.D = cl at *
    generalize os.map Nm.D = ol at *
    simp only at o8 o9 ⊢
    rcases o8 with rfl | rfl <;> rcases o9 with rfl | rfl <;> simp [lb_law_thing_8, e1])
  exact ⟨q', s2, e, by simpa using p⟩
theorem th_loop5 (k : Nat) {q4 q5 q6 q7 : Sl} (cs os : List Nm) (hc : cs.length < 1000) (ho : os.length < 1000) (hs : List Dt) (m : Nat) (q3 q8 q9 q10 : Sl) (h8 : OF q8 (cs.map Nm.D)) (h9 : OF q9 (os.map Nm.D)) (s' : Sto) (h : PS_ n ns b m s') (hx : m + 13 * hs.length ≤ 1000) :
    ∃ (q3' q8' q9' q10' : Sl) (s2 : Sto), forL (turn (TT (k+5)) GG (.nm 10) lb_law_thing_9) (hs.map dD) [.fr (.loc n), .fr (.dic tbK), .fr (.loc (b.length+6)), q3, q4, q5, q6, q7, q8, q9, q10] s' = .ok .nx [.fr (.loc n), .fr (.dic tbK), .fr (.loc (b.length+6)), q3', q4, q5, q6, q7, q8', q9', q10'] s2 ∧ PS_ n ns b (m + 13 * hs.length) s2 := by
  induction hs generalizing q3 q8 q9 q10 s' m with
  | nil => exact ⟨q3, q8, q9, q10, s', rfl, h⟩
  | cons x hs ih =>
    obtain ⟨t, hp, ht, hz⟩ := h
    simp only [List.length_cons] at hx
    have f0 := hp.a0
    have f1 := hp.a1
    have f6 := hp.a6
    have hl : t.defs.length < sizeMax := by unfold sizeMax; unfold Th.sz at hz; omega
    have p1 := hp.p1 (x.1, t.rows.length, x.2.1, x.2.2)
    obtain ⟨r, s2, e2, p2, r0, r1⟩ := draw_ (k+4) p1.2 (m := 4) (by decide) (by decide)
    have hr : (rangeL 0 (1 + r)).length = (1 + r).toNat := by simp [rangeL]
    obtain ⟨q3', s3, e3, p3, o8, o9⟩ := th_loop4 k (q4 := q4) (q5 := q5) (q6 := q6) (q7 := q7) (q10 := .fr (dD x)) cs os hc ho (rangeL 0 (1 + r)) (m + 1) (q3, q8, q9) ⟨h8, h9⟩ s2 ⟨_, ⟨p1.1, p2⟩, ⟨ht.rows, ht.signs, ht.wants⟩, by simp [Th.sz] at hz ⊢; omega⟩ (by rw [hr]; omega)
    obtain ⟨q3'', q8'', q9'', q10'', s4, e4, p4⟩ := ih (m + 13) q3'.1 q3'.2.1 q3'.2.2 (.fr (dD x)) o8 o9 s3 (by obtain ⟨t', a, b, c⟩ := p3; exact ⟨t', a, b, by rw [hr] at c; omega⟩) (by omega)
    refine ⟨q3'', q8'', q9'', q10'', s4, ?_, by rw [List.length_cons]; obtain ⟨t', a, b, c⟩ := p4; exact ⟨t', a, b, by omega⟩⟩
    have hs : small62 (1 + r) = true := by simp [small62]; omega
    have tn : turn (TT (k+5)) GG (.nm 10) lb_law_thing_9 (dD x) [.fr (.loc n), .fr (.dic tbK), .fr (.loc (b.length+6)), q3, q4, q5, q6, q7, q8, q9, q10] s' = .ok .nx [.fr (.loc n), .fr (.dic tbK), .fr (.loc (b.length+6)), q3'.1, q4, q5, q6, q7, q3'.2.1, q3'.2.2, .fr (dD x)] s3 := by
      obtain ⟨x1, x2, x3⟩ := x
      clear ih e4 h8 h9 o8 o9
      generalize cs.map Nm.D = cl at *
      generalize os.map Nm.D = ol at *
      simp [fD, dD] at e2 e3
      simp [lb_law_thing_9, f0, f1, f6, dcD, dD, hl, e2, hs, e3]
    rw [List.map_cons, forL_cons, tn, R.bind_ok, kTn_nx, e4]
end
section
variable {n : Nat} {ns : List Int} {b c s' : Sto} {t : Th}
theorem th_c4 (k : Nat) (s : Sto) {q0 q1 q2 q3 q4 q5 q6 q7 q8 q9 : Sl} (hs : List Dt) (hl : hs.length ≤ 1000) : compL (cmpF (TT k) GG lb_law_thing_4 (.nm 10) .nil [10]) (hs.map dD) [] [q0, q1, q2, q3, q4, q5, q6, q7, q8, q9, .un] s = .ok (hs.map fun h => h.1.D) [q0, q1, q2, q3, q4, q5, q6, q7, q8, q9, .un] s :=
  comp_map hs (fun x _ => by obtain ⟨x1, x2, x3⟩ := x; simp [lb_law_thing_4, dD, wipeE]) (by unfold sizeMax; omega)
theorem th_c5 (k : Nat) {s : Sto} {q0 q1 q2 q3 q4 q5 q6 q7 q8 q9 : Sl} {a : Nat} (ws : List Wn) (hs : s[a]? = some (.lst (ws.map wD))) (hl : ws.length ≤ 1000) : compL (cmsF (TT k) GG lb_law_thing_5 (.nm 10) (.cons (.cmp .Eq (.cons (.sub (.cons (.var 10) (.cons (.int 1) .nil))) (.cons (.str "function") .nil))) .nil) [10] a (ws.map wD)) (ws.map wD) [] [q0, q1, q2, q3, q4, q5, q6, q7, q8, q9, .un] s = .ok ((ws.filter fun w => decide (w.2.1 = "function")).map fun h => h.1.D) [q0, q1, q2, q3, q4, q5, q6, q7, q8, q9, .un] s := by
  have := comp_pure (s := s) (f := cmsF (TT k) GG lb_law_thing_5 (.nm 10) (.cons (.cmp .Eq (.cons (.sub (.cons (.var 10) (.cons (.int 1) .nil))) (.cons (.str "function") .nil))) .nil) [10] a (ws.map wD)) (g := wD) (p := fun w : Wn => decide (w.2.1 = "function")) (r := fun w => w.1.D) (e := [q0, q1, q2, q3, q4, q5, q6, q7, q8, q9, .un]) ws [] (fun x _ => by
    obtain ⟨x1, x2, x3⟩ := x
    have e := eq_S x2 "function"
    by_cases q : x2 = "function"
    · rw [decide_eq_true q] at e
      simp [isL_of hs, lb_law_thing_5, wD, wipeE, e, q]
    · rw [decide_eq_false q] at e
      simp [isL_of hs, lb_law_thing_5, wD, wipeE, e, q]) (by unfold sizeMax; simp; omega)
  simpa using this
theorem th_c6 (k : Nat) {s : Sto} {q0 q1 q2 q3 q4 q5 q6 q7 q8 q9 : Sl} {a : Nat} (hs : List Dt) (h : s[a]? = some (.lst (hs.map dD))) (hl : hs.length ≤ 1000) : compL (cmsF (TT k) GG lb_law_thing_6 (.nm 10) .nil [10] a (hs.map dD)) (hs.map dD) [] [q0, q1, q2, q3, q4, q5, q6, q7, q8, q9, .un] s = .ok (hs.map fun h => h.1.D) [q0, q1, q2, q3, q4, q5, q6, q7, q8, q9, .un] s :=
  comp_map hs (fun x _ => by obtain ⟨x1, x2, x3⟩ := x; simp [isL_of h, lb_law_thing_6, dD, wipeE]) (by unfold sizeMax; omega)
theorem th_c7 (k : Nat) {s : Sto} {q0 q1 q2 q3 q4 q5 q6 q7 q8 q9 : Sl} {a : Nat} (ws : List Wn) (hs : s[a]? = some (.lst (ws.map wD))) (hl : ws.length ≤ 1000) : compL (cmsF (TT k) GG lb_law_thing_7 (.nm 10) (.cons (.cmp .NotEq (.cons (.sub (.cons (.var 10) (.cons (.int 1) .nil))) (.cons (.str "function") .nil))) .nil) [10] a (ws.map wD)) (ws.map wD) [] [q0, q1, q2, q3, q4, q5, q6, q7, q8, q9, .un] s = .ok ((ws.filter fun w => !decide (w.2.1 = "function")).map fun h => h.1.D) [q0, q1, q2, q3, q4, q5, q6, q7, q8, q9, .un] s := by
  have := comp_pure (s := s) (f := cmsF (TT k) GG lb_law_thing_7 (.nm 10) (.cons (.cmp .NotEq (.cons (.sub (.cons (.var 10) (.cons (.int 1) .nil))) (.cons (.str "function") .nil))) .nil) [10] a (ws.map wD)) (g := wD) (p := fun w : Wn => !decide (w.2.1 = "function")) (r := fun w => w.1.D) (e := [q0, q1, q2, q3, q4, q5, q6, q7, q8, q9, .un]) ws [] (fun x _ => by
    obtain ⟨x1, x2, x3⟩ := x
    have e := ne_S x2 "function"
    by_cases q : x2 = "function"
    · rw [decide_eq_true q] at e
      simp [isL_of hs, lb_law_thing_7, wD, wipeE, e, q]
    · rw [decide_eq_false q] at e
      simp [isL_of hs, lb_law_thing_7, wD, wipeE, e, q]) (by unfold sizeMax; simp; omega)
  simpa using this
theorem thing_ (k : Nat) (hn : n < b.length) (h : PA n ns b s') : ∃ (t : Th) (s2 : Sto), TT (k+6) "_law_thing" [.loc n, .dic tbK] s' = some (.rt (.loc (b.length+6)) false, s2) ∧ PT n ns b [] t s2 ∧ t.ok ∧ t.sz ≤ 1000 := by
  rw [show TT (k+6) "_law_thing" = runD (TT (k+5)) GG df_law_thing from rfl]
  have hlen := h.len
  have h0 : PT n ns b [] ⟨[], [], [], [], [], []⟩ (s' ++ [.lst [], .lst [], .lst [], .lst [], .lst [], .lst [], dcD b.length]) := by
    refine ⟨hn, ?_⟩
    obtain ⟨h1, h2, i, v, d, hi, hv, hd, rfl⟩ := h
    refine ⟨by simp; omega, h2, i, v, d, hi, hv, hd, ?_⟩
    rw [List.set_append_left _ _ h1]; simp [Th.L]
  obtain ⟨m1, s1, e1, p1, a1, b1⟩ := many_ (k+2) h0.2
  have l1 : (rangeL 0 m1).length = m1.toNat := by simp [rangeL]
  obtain ⟨q1, s2, e2, p2⟩ := th_loop1 (k+1) (q5 := .un) (q6 := .un) (q7 := .un) (q8 := .un) (q9 := .un) (q10 := .un) (qt := .fr (.dic tbK)) (rangeL 0 m1) 0 (.un, .un) s1 ⟨_, ⟨hn, p1⟩, ⟨by simp, by simp, by simp⟩, by simp [Th.sz]⟩ (by omega)
  obtain ⟨t2, pt2, ok2, z2⟩ := p2
  obtain ⟨m2, s3, e3, p3, a3, b3⟩ := many_ (k+2) pt2.2
  have l2 : (rangeL 0 m2).length = m2.toNat := by simp [rangeL]
  obtain ⟨q2, s4, e4, p4⟩ := th_loop2 (k+1) (q4 := q1.2) (q5 := .un) (q6 := .un) (q7 := .un) (q8 := .un) (q9 := .un) (q10 := .un) (qt := .fr (.dic tbK)) (rangeL 0 m2) 6 q1.1 s3 ⟨_, ⟨hn, p3⟩, ok2, by omega⟩ (by omega)
  obtain ⟨t4, pt4, ok4, z4⟩ := p4
  obtain ⟨m3, s5, e5, p5, h5⟩ := pickI (k+3) [0, 1, 1, 1, 1, 1, 2, 2, 2, 3, 3, 6] pt4.2 (by decide) (by decide)
  have hb : 0 ≤ m3 ∧ m3 ≤ 6 := (by decide : ∀ r ∈ [0, 1, 1, 1, 1, 1, 2, 2, 2, 3, 3, (6 : Int)], 0 ≤ r ∧ r ≤ 6) m3 h5
  have l3 : (rangeL 0 m3).length = m3.toNat := by simp [rangeL]
  obtain ⟨hs, q3, q6, q7, s6, e6, p6, l6⟩ := th_loop3 (k+2) (b := b) (q4 := q1.2) (q8 := .un) (q9 := .un) (q10 := .un) (qt := .fr (.dic tbK)) (rangeL 0 m3) [] q2 .un .un p5 (by rw [l3]; simp; omega)
  have lh : hs.length ≤ 6 := by rw [l6, l3]; simp; omega
  have pt6 : PT n ns b [] t4 s6 := ⟨hn, p6⟩
  have f3 := pt6.a3
  have f2 := pt6.a2
  have f6 := pt6.a6
  have zz : t4.wants.length ≤ 1000 ∧ t4.outer.length ≤ 1000 := by unfold Th.sz at z4; omega
  have c4 := th_c4 (k+5) s6 (q0 := .fr (.loc n)) (q1 := .fr (.dic tbK)) (q2 := .fr (.loc (b.length+6))) (q3 := q3) (q4 := q1.2) (q5 := .fr (.lst (hs.map dD))) (q6 := q6) (q7 := q7) (q8 := .un) (q9 := .un) hs (by omega)
  have c5 := th_c5 (k+5) (q0 := .fr (.loc n)) (q1 := .fr (.dic tbK)) (q2 := .fr (.loc (b.length+6))) (q3 := q3) (q4 := q1.2) (q5 := .fr (.lst (hs.map dD))) (q6 := q6) (q7 := q7) (q8 := .ow (.lst (hs.map fun h => h.1.D))) (q9 := .un) t4.wants f3 zz.1
  let cs : List Nm := hs.map (·.1) ++ (t4.wants.filter fun w => decide (w.2.1 = "function")).map (·.1)
  let os : List Nm := t4.outer.map (·.1) ++ (t4.wants.filter fun w => !decide (w.2.1 = "function")).map (·.1)
  have hcs : (hs.map fun h => h.1.D) ++ ((t4.wants.filter fun w => decide (w.2.1 = "function")).map fun h => h.1.D) = cs.map Nm.D := by simp [cs, Function.comp_def]
  have hos : (t4.outer.map fun h => h.1.D) ++ ((t4.wants.filter fun w => !decide (w.2.1 = "function")).map fun h => h.1.D) = os.map Nm.D := by simp [os, Function.comp_def]
  have lf1 : (t4.wants.filter fun w => decide (w.2.1 = "function")).length ≤ t4.wants.length := List.length_filter_le ..
  have lf2 : (t4.wants.filter fun w => !decide (w.2.1 = "function")).length ≤ t4.wants.length := List.length_filter_le ..
  have ln : cs.length < 1000 ∧ os.length < 1000 := by
    unfold Th.sz at z4
    simp only [cs, os, List.length_append, List.length_map]
    omega
  have lc1 : (hs.map fun h => h.1.D).length + ((t4.wants.filter fun w => decide (w.2.1 = "function")).map fun h => h.1.D).length ≤ sizeMax := by
    unfold Th.sz at z4; simp only [List.length_map]; unfold sizeMax; omega
  have lc2 : (t4.outer.map fun h => h.1.D).length + ((t4.wants.filter fun w => !decide (w.2.1 = "function")).map fun h => h.1.D).length ≤ sizeMax := by
    unfold Th.sz at z4; simp only [List.length_map]; unfold sizeMax; omega
  have c6 := th_c6 (k+5) (q0 := .fr (.loc n)) (q1 := .fr (.dic tbK)) (q2 := .fr (.loc (b.length+6))) (q3 := q3) (q4 := q1.2) (q5 := .fr (.lst (hs.map dD))) (q6 := q6) (q7 := q7) (q8 := .ow (.lst (cs.map Nm.D))) (q9 := .un) t4.outer f2 zz.2
  have c7 := th_c7 (k+5) (q0 := .fr (.loc n)) (q1 := .fr (.dic tbK)) (q2 := .fr (.loc (b.length+6))) (q3 := q3) (q4 := q1.2) (q5 := .fr (.lst (hs.map dD))) (q6 := q6) (q7 := q7) (q8 := .ow (.lst (cs.map Nm.D))) (q9 := .ow (.lst (t4.outer.map fun h => h.1.D))) t4.wants f3 zz.1
  obtain ⟨q3', q8', q9', q10', s7, e7, t7, pt7, ok7, z7⟩ := th_loop5 k (q4 := q1.2) (q5 := .fr (.lst (hs.map dD))) (q6 := q6) (q7 := q7) cs os ln.1 ln.2 hs 12 q3 (.ow (.lst (cs.map Nm.D))) (.ow (.lst (os.map Nm.D))) .un (.inl rfl) (.inl rfl) s6 ⟨t4, pt6, ok4, by omega⟩ (by omega)
  refine ⟨t7, s7, ?_, pt7, ok7, by omega⟩
  have w1 : small62 m1 = true := by simp [small62]; omega
  have w2 : small62 m2 = true := by simp [small62]; omega
  have w3 : small62 m3 = true := by simp [small62]; omega
  simp only [dcD] at e1 f6
  generalize cs.map Nm.D = cl at *
  generalize os.map Nm.D = ol at *
  rw [runD_out rfl (by decide)]
  simp at e5 e6 lc1 lc2
  simp [df_law_thing, hlen, e1, w1, e2, e3, w2, e4, e5, w3, e6, c4, f6, f3, c5, lc1, hcs, f2, c6, c7, lc2, hos, wipeE, e7, isL_of f2, isL_of f3]
end
section
variable {n : Nat} {ns : List Int} {b c s' : Sto} {t : Th}
def LN (n : Nat) (ns : List Int) (b c : Sto) (t : Th) (m : Nat) (s' : Sto) : Prop := ∃ w, PT n ns b c { t with wants := w } s' ∧ (∀ x ∈ w, okW x) ∧ w.length ≤ m
def ln_c : S := match lb_law_like_needs_1 with
  | .cons (.ifs _ (.cons _ (.cons _ (.cons r _))) _) _ => r
  | _ => .nev
theorem ln_ins (k : Nat) {q2 q3 q5 : Sl} {m : Nat} {w : Wn} (hw : okW w) (h : LN n ns b c t m s') (hm : m < 10000) :
    ∃ (q5' : Sl) (s2 : Sto), xS (TT (k+2)) GG ln_c [.fr (.loc n), .fr (.loc (b.length+6)), q2, q3, .fr (wD w), q5] s' = .ok .nx [.fr (.loc n), .fr (.loc (b.length+6)), q2, q3, .fr (wD w), q5'] s2 ∧ LN n ns b c t (m + 1) s2 := by
  obtain ⟨ws, hp, ok, hl⟩ := h
  have f3 := hp.a3
  have f6 := hp.a6
  have iw := in_w w ws
  by_cases hx : w ∈ ws
  · refine ⟨q5, s', ?_, ws, hp, ok, by omega⟩
    rw [decide_eq_true hx] at iw
    simp only at f3
    have hd : ∀ s, der s (wD w) = some (wD w) := fun _ => rfl
    generalize wD w = wd at *
    simp [hd, ln_c, lb_law_like_needs_1, f3, f6, dcD, iw]
  · obtain ⟨r, s2, e2, p2, r0, r1⟩ := draw_ (k+1) hp.2 (m := ws.length + 1) (by omega) (by omega)
    have hp2 : PT n ns b c { t with wants := ws } s2 := ⟨hp.1, p2⟩
    have g3 := hp2.a3
    have g6 := hp2.a6
    have hl2 : ws.length < sizeMax := by unfold sizeMax; omega
    refine ⟨.fr (.int r), _, ?_, _, hp2.p3i r.toNat w, fun x hx => ?_, by simp; omega⟩
    · rw [decide_eq_false hx] at iw
      have hr : r < 2 ^ 63 := by omega
      simp only at f3 g3 ⊢
      have hd : ∀ s, der s (wD w) = some (wD w) := fun _ => rfl
      generalize wD w = wd at *
      simp at hr
      simp [hd, ln_c, lb_law_like_needs_1, f3, f6, dcD, iw, e2, g3, g6, hl2, r0, hr]
    · rcases List.mem_append.mp hx with hx | hx
      · exact ok _ (List.mem_of_mem_take hx)
      · rcases List.mem_cons.mp hx with hx | hx
        · rw [hx]; exact hw
        · exact ok _ (List.mem_of_mem_drop hx)
theorem ln_turn (k : Nat) {q2 q3 q4 q5 : Sl} {m : Nat} {w : Wn} (hw : okW w) (h : LN n ns b c t m s') (hm : m < 10000) :
    ∃ (q3' q4' q5' : Sl) (s2 : Sto), turn (TT (k+2)) GG (.nm 3) lb_law_like_needs_1 (wD w) [.fr (.loc n), .fr (.loc (b.length+6)), q2, q3, q4, q5] s' = .ok .nx [.fr (.loc n), .fr (.loc (b.length+6)), q2, q3', q4', q5'] s2 ∧ LN n ns b c t (m + 1) s2 := by
  obtain ⟨ws, hp, ok, hl⟩ := h
  obtain ⟨x, s1, e1, p1, x0, x1⟩ := draw_ (k+1) hp.2 (m := 2) (by decide) (by decide)
  have h1 : LN n ns b c t m s1 := ⟨ws, ⟨hp.1, p1⟩, ok, hl⟩
  by_cases hx : x = 0
  · have hb : lb_law_like_needs_1 = .cons (.ifs (.cmp .Eq (.cons (.call false "_law_draw" (.cons (.var 0) (.cons (.int 2) .nil))) (.cons (.int 0) .nil))) (.cons (.set (.nm 4) (.var 3)) (.cons (.ifs (.and (.cons (.cmp .Eq (.cons (.sub (.cons (.var 3) (.cons (.int 1) .nil))) (.cons (.str "function") .nil))) (.cons (.cmp .Eq (.cons (.call false "_law_draw" (.cons (.var 0) (.cons (.int 3) .nil))) (.cons (.int 0) .nil))) .nil))) (.cons (.set (.nm 4) (.tup (.cons (.sub (.cons (.var 3) (.cons (.int 0) .nil))) (.cons (.sub (.cons (.var 3) (.cons (.int 1) .nil))) (.cons (.bin .Mod (.cons (.blt .int (.cons (.bin .Add (.cons (.sub (.cons (.var 3) (.cons (.int 2) .nil))) (.cons (.int 1) .nil))) .nil)) (.cons (.int 7) .nil))) .nil))))) .nil) .nil) (.cons ln_c .nil))) .nil) .nil := rfl
    have ee := eq_S w.2.1 "function"
    by_cases hf : w.2.1 = "function"
    · obtain ⟨y, s2, e2, p2, y0, y1⟩ := draw_ (k+1) p1 (m := 3) (by decide) (by decide)
      rw [decide_eq_true hf] at ee
      by_cases hy : y = 0
      · have hw2 : okW (w.1, w.2.1, (w.2.2 + 1) % 7) := .inr (.inr ⟨hf, by show 0 ≤ (w.2.2 + 1) % 7; omega, by show (w.2.2 + 1) % 7 ≤ 6; omega⟩)
        obtain ⟨q5', s3, e3, p3⟩ := ln_ins k (q2 := q2) (q3 := .fr (wD w)) (q5 := q5) hw2 (⟨ws, ⟨hp.1, p2⟩, ok, hl⟩ : LN n ns b c t m s2) hm
        refine ⟨.fr (wD w), .fr (wD (w.1, w.2.1, (w.2.2 + 1) % 7)), q5', s3, ?_, p3⟩
        obtain ⟨w1, w2, w3⟩ := w
        simp only at hf
        subst hf
        simp only [wD] at e3 ⊢
        simp at ee
        rw [hb]
        generalize ln_c = lc at *
        simp [hx, e1, ee, e2, hy, e3, wD]
      · obtain ⟨q5', s3, e3, p3⟩ := ln_ins k (q2 := q2) (q3 := .fr (wD w)) (q5 := q5) hw (⟨ws, ⟨hp.1, p2⟩, ok, hl⟩ : LN n ns b c t m s2) hm
        refine ⟨.fr (wD w), .fr (wD w), q5', s3, ?_, p3⟩
        obtain ⟨w1, w2, w3⟩ := w
        simp only at hf
        subst hf
        simp only [wD] at e3 ⊢
        simp at ee
        rw [hb]
        generalize ln_c = lc at *
        simp [hx, e1, ee, e2, hy, e3, wD]
    · rw [decide_eq_false hf] at ee
      obtain ⟨q5', s3, e3, p3⟩ := ln_ins k (q2 := q2) (q3 := .fr (wD w)) (q5 := q5) hw h1 hm
      refine ⟨.fr (wD w), .fr (wD w), q5', s3, ?_, p3⟩
      obtain ⟨w1, w2, w3⟩ := w
      simp only [wD] at e3 ee ⊢
      simp at ee
      rw [hb]
      generalize ln_c = lc at *
      simp [hx, e1, ee, e3, wD, hf]
  · refine ⟨.fr (wD w), q4, q5, s1, ?_, ws, ⟨hp.1, p1⟩, ok, by omega⟩
    simp [lb_law_like_needs_1, hx, e1]
theorem like_needs_ (k : Nat) (os : List Wn) (ho : ∀ w ∈ os, okW w) (m : Nat) (h : LN n ns b c t m s') (hm : m + os.length ≤ 10000) :
    ∃ (s2 : Sto), TT (k+3) "_law_like_needs" [.loc n, .loc (b.length+6), .lst (os.map wD)] s' = some (.rt .none false, s2) ∧ LN n ns b c t (m + os.length) s2 := by
  rw [show TT (k+3) "_law_like_needs" = runD (TT (k+2)) GG df_law_like_needs from rfl]
  obtain ⟨q, s2, e, p⟩ := loop_run (f := turn (TT (k+2)) GG (.nm 3) lb_law_like_needs_1) (fun q : Sl × Sl × Sl => [.fr (.loc n), .fr (.loc (b.length+6)), .fr (.lst (os.map wD)), q.1, q.2.1, q.2.2]) (fun i _ s => LN n ns b c t (m + i) s) (os.map wD) 0 (.un, .un, .un) s' h (fun i x hx q s hp => by
    rw [List.getElem?_map, Option.map_eq_some_iff] at hx
    obtain ⟨w, hw, rfl⟩ := hx
    obtain ⟨hi, hw⟩ := List.getElem?_eq_some_iff.mp hw
    obtain ⟨q3, q4, q5, s2, e, p⟩ := ln_turn k (q2 := .fr (.lst (os.map wD))) (q3 := q.1) (q4 := q.2.1) (q5 := q.2.2) (ho w (hw ▸ List.getElem_mem hi)) hp (by omega)
    exact ⟨(q3, q4, q5), s2, .inl e, by rwa [show m + (0 + i + 1) = m + (0 + i) + 1 by omega]⟩)
  refine ⟨s2, ?_, by simpa using p⟩
  rw [runD_out rfl (by decide)]
  (try simp at e)
  generalize os.map wD = ol at *
  simp [df_law_like_needs, e]
/-! what is due -/
structure Du where
  ws : List Int
  defs : List Fx
  outer : List Dt
  wants : List Wn
  opn : List Op
  signs : List Sg
def Du.L (u : Du) : List D := [.tup (u.ws.map D.int), .tup (u.defs.map fD), .tup (u.outer.map dD), .tup (u.wants.map wD), .tup (u.opn.map oD), .tup (u.signs.map gD)]
def Du.D (u : Du) : D := .tup u.L
def Th.du (t : Th) : Du := ⟨t.rows.map encI, t.defs, t.outer, t.wants, t.opn, t.signs⟩
@[simp] theorem nol_rD (r : Row) : (rD r).nol = true := by
  have : nolL (r.2.map D.int) = true := nolL_map (fun b => by simp) _
  simp [rD, this]
@[simp] theorem nol_tbK : (D.dic tbK).nol = true := by decide +kernel
theorem parts_of_ (k : Nat) (h : PT n ns b c t s') (ok : t.ok) (hz : t.sz ≤ 20000) : TT (k+2) "_law_parts_of" [.dic tbK, .loc (b.length+6)] s' = some (.rt t.du.D false, s') := by
  rw [show TT (k+2) "_law_parts_of" = runD (TT (k+1)) GG df_law_parts_of from rfl, runD_out rfl (by decide)]
  have f0 := h.a0
  have f1 := h.a1
  have f2 := h.a2
  have f3 := h.a3
  have f4 := h.a4
  have f5 := h.a5
  have f6 := h.a6
  have c1 := comp_map (s := s') (f := cmsF (TT (k+1)) GG lb_law_parts_of_1 (.nm 5) .nil [5] b.length (t.rows.map rD)) (g := rD) (r := fun r => .int (encI r)) (e := [.fr (.dic tbK), .fr (.loc (b.length+6)), .un, .un, .un, .un]) t.rows (fun x hx => by
    have e1 := encoded_ k [] (ok.rows x hx)
    simp [isL_of f0, lb_law_parts_of_1, e1, wipeE]) (by unfold sizeMax; unfold Th.sz at hz; omega)
  have l0 : t.rows.length ≤ 16777216 := by unfold Th.sz at hz; omega
  simp [df_law_parts_of, f0, f1, f2, f3, f4, f5, f6, dcD, c1, isL_of f0, wipeE, lb_law_parts_of_2, Du.D, Du.L, Th.du]
end
/-! plain data -/
mutual
/-- ints, texts, tuples of such, n levels at most -/
def plB : Nat → D → Bool
  | _, .int _ => true
  | _, .str z => z.cps.all (· < 0x110000)
  | n + 1, .tup xs => plBL n xs && decide (xs.length < 100000)
  | _, _ => false
def plBL : Nat → List D → Bool
  | _, [] => true
  | n, x :: xs => plB n x && plBL n xs
end
theorem plBL_all {n : Nat} : ∀ {xs : List D}, plBL n xs = true → ∀ x ∈ xs, plB n x = true
  | x :: xs, h, y, hy => by
    rw [plBL, Bool.and_eq_true] at h
    rcases List.mem_cons.mp hy with rfl | hy
    · exact h.1
    · exact plBL_all h.2 y hy
mutual
theorem pl_nol : ∀ {d : D} {n : Nat}, plB n d = true → d.nol = true
  | .int _, _, _ => by rw [D.nol]
  | .str _, _, _ => by rw [D.nol]
  | .tup xs, 0, h => by simp [plB] at h
  | .tup xs, n + 1, h => by
    rw [plB, Bool.and_eq_true] at h
    rw [D.nol]; exact plBL_nol h.1
  | .none, n, h => by cases n <;> simp [plB] at h
  | .bool _, n, h => by cases n <;> simp [plB] at h
  | .lst _, n, h => by cases n <;> simp [plB] at h
  | .dic _, n, h => by cases n <;> simp [plB] at h
  | .loc _, n, h => by cases n <;> simp [plB] at h
  | .ty _, n, h => by cases n <;> simp [plB] at h
  | .obj _ _, n, h => by cases n <;> simp [plB] at h
theorem plBL_nol : ∀ {xs : List D} {n : Nat}, plBL n xs = true → nolL xs = true
  | [], _, _ => rfl
  | x :: xs, n, h => by
    rw [plBL, Bool.and_eq_true] at h
    rw [nolL, pl_nol h.1, plBL_nol h.2]; rfl
end
mutual
theorem pl_imm : ∀ {d : D} {n : Nat}, plB n d = true → d.imm = true
  | .int _, _, _ => by rw [D.imm]
  | .str _, _, _ => by rw [D.imm]
  | .tup xs, 0, h => by simp [plB] at h
  | .tup xs, n + 1, h => by
    rw [plB, Bool.and_eq_true] at h
    rw [D.imm]; exact plBL_imm h.1
  | .none, n, h => by cases n <;> simp [plB] at h
  | .bool _, n, h => by cases n <;> simp [plB] at h
  | .lst _, n, h => by cases n <;> simp [plB] at h
  | .dic _, n, h => by cases n <;> simp [plB] at h
  | .loc _, n, h => by cases n <;> simp [plB] at h
  | .ty _, n, h => by cases n <;> simp [plB] at h
  | .obj _ _, n, h => by cases n <;> simp [plB] at h
theorem plBL_imm : ∀ {xs : List D} {n : Nat}, plBL n xs = true → immL xs = true
  | [], _, _ => rfl
  | x :: xs, n, h => by
    rw [plBL, Bool.and_eq_true] at h
    rw [immL, pl_imm h.1, plBL_imm h.2]; rfl
end
/-! plain data -/
theorem pl_str' {n : Nat} (z : Str) (h : z.cps.all (· < 0x110000) = true) : plB n (.str z) = true := by cases n <;> simpa [plB] using h
theorem pl_sD {n : Nat} (z : String) : plB n (sD z) = true := pl_str' _ ofString_fine
theorem pl_int {n : Nat} (z : Int) : plB n (.int z) = true := by cases n <;> simp [plB]
mutual
theorem pl_mono : ∀ {d : D} {n : Nat}, plB n d = true → plB (n+1) d = true
  | .int _, _, _ => pl_int _
  | .str _, n, h => by cases n <;> simpa [plB] using h
  | .tup xs, 0, h => by simp [plB] at h
  | .tup xs, n + 1, h => by
    rw [plB, Bool.and_eq_true] at h
    rw [plB, plBL_mono h.1, h.2]; rfl
  | .none, n, h => by cases n <;> simp [plB] at h
  | .bool _, n, h => by cases n <;> simp [plB] at h
  | .lst _, n, h => by cases n <;> simp [plB] at h
  | .dic _, n, h => by cases n <;> simp [plB] at h
  | .loc _, n, h => by cases n <;> simp [plB] at h
  | .ty _, n, h => by cases n <;> simp [plB] at h
  | .obj _ _, n, h => by cases n <;> simp [plB] at h
theorem plBL_mono : ∀ {xs : List D} {n : Nat}, plBL n xs = true → plBL (n+1) xs = true
  | [], _, _ => by simp [plBL]
  | x :: xs, n, h => by
    rw [plBL, Bool.and_eq_true] at h
    rw [plBL, pl_mono h.1, plBL_mono h.2]; rfl
end
theorem pl_le {d : D} {n : Nat} : ∀ {m : Nat}, n ≤ m → plB n d = true → plB m d = true
  | 0, h, hp => by have : n = 0 := by omega
                   rw [this] at hp; exact hp
  | m + 1, h, hp => by
    by_cases q : n = m + 1
    · rw [q] at hp; exact hp
    · exact pl_mono (pl_le (by omega) hp)
theorem plBL_of {n : Nat} : ∀ {l : List D}, (∀ x ∈ l, plB n x = true) → plBL n l = true
  | [], _ => by simp [plBL]
  | x :: l, h => by rw [plBL, h x (by simp), plBL_of fun y hy => h y (by simp [hy])]; rfl
theorem pl_tup {n : Nat} {l : List D} (h : ∀ x ∈ l, plB n x = true) (hl : l.length < 100000) : plB (n+1) (.tup l) = true := by
  rw [plB, plBL_of h]; simpa using hl
@[simp] theorem gg_int : GG "int" = some (.ty "int") := (rfl)
@[simp] theorem gg_bool : GG "bool" = some (.ty "bool") := (rfl)
@[simp] theorem gg_str : GG "str" = some (.ty "str") := (rfl)
@[simp] theorem gg_list : GG "list" = some (.ty "list") := (rfl)
@[simp] theorem gg_tuple : GG "tuple" = some (.ty "tuple") := (rfl)
@[simp] theorem isi_tl_i (i : Int) : bltD .isi [.int i, .tup [.ty "tuple", .ty "list"]] = some (.bool false, false) := (rfl)
@[simp] theorem isi_tl_s (i : Str) : bltD .isi [.str i, .tup [.ty "tuple", .ty "list"]] = some (.bool false, false) := (rfl)
@[simp] theorem isi_tl_t (i : List D) : bltD .isi [.tup i, .tup [.ty "tuple", .ty "list"]] = some (.bool true, false) := (rfl)
@[simp] theorem isi_l_t (i : List D) : bltD .isi [.tup i, .ty "list"] = some (.bool false, false) := (rfl)
theorem pl_der {d : D} {n : Nat} (h : plB n d = true) (s : Sto) : der s d = some d := by
  cases d <;> first | rfl | (cases n <;> simp [plB] at h)
theorem alike_pl : ∀ (n : Nat) (d : D), plB n d = true → ∀ (k : Nat) (s : Sto), TT (k+n+1) "_law_alike" [d, d] s = some (.rt (.bool true) false, s)
  | n, .int i, h, k, s => by
    rw [show TT (k+n+1) "_law_alike" = runD (TT (k+n)) GG df_law_alike from rfl, runD_out rfl (by decide)]
    simp [df_law_alike]
  | n, .str z, h, k, s => by
    have hz : z.cps.all (· < 0x110000) = true := by cases n <;> simpa [plB] using h
    have e : cmpD .Eq (.str z) (.str z) = some true := by
      show (if (D.str z).fine 64 && (D.str z).fine 64 then some ((D.str z).eqv (.str z)) else none) = _
      have : (D.str z).fine 64 = true := hz
      rw [this]; simp [D.eqv]
    rw [show TT (k+n+1) "_law_alike" = runD (TT (k+n)) GG df_law_alike from rfl, runD_out rfl (by decide)]
    simp [df_law_alike, e]
  | 0, .tup xs, h, k, s => by simp [plB] at h
  | n + 1, .tup xs, h, k, s => by
    rw [plB, Bool.and_eq_true, decide_eq_true_eq] at h
    obtain ⟨q', e⟩ := loop_all (s := s) (f := turn (TT (k+n+1)) GG (.nm 2) lb_law_alike_1) (fun q => [.fr (.tup xs), .fr (.tup xs), q]) (rangeL 0 xs.length) .un (fun x hx q => by
      rw [rangeL_eq] at hx
      obtain ⟨i, hi, rfl⟩ := List.mem_map.mp hx
      obtain ⟨h0, h1⟩ := mem_rgI.mp hi
      have h2 : i.toNat < xs.length := by omega
      have hp := plBL_all h.1 _ (List.getElem_mem h2)
      have e := alike_pl n xs[i.toNat] hp k []
      have a1 : L2.atI xs i = some xs[i.toNat] := by
        rw [Pv.atI_nat h0, List.getElem?_eq_getElem h2]
      have hd := fun s => pl_der hp s
      have hn := pl_nol hp
      generalize xs[i.toNat] = x at *
      refine ⟨.fr (.int i), .inl ?_⟩
      simp [lb_law_alike_1, a1, e, hd, hn])
    have hs : small62 (xs.length : Int) = true := by simp [small62]; omega
    rw [show TT (k+(n+1)+1) "_law_alike" = runD (TT (k+n+1)) GG df_law_alike from rfl, runD_out rfl (by decide)]
    simp [df_law_alike, e, hs]
  | n, .none, h, k, s => by cases n <;> simp [plB] at h
  | n, .bool _, h, k, s => by cases n <;> simp [plB] at h
  | n, .lst _, h, k, s => by cases n <;> simp [plB] at h
  | n, .dic _, h, k, s => by cases n <;> simp [plB] at h
  | n, .loc _, h, k, s => by cases n <;> simp [plB] at h
  | n, .ty _, h, k, s => by cases n <;> simp [plB] at h
  | n, .obj _ _, h, k, s => by cases n <;> simp [plB] at h
theorem pl_nm {n : Nat} (z : Nm) : plB n z.D = true := pl_str' _ (by have := fine_nm z 64; simpa [Nm.D] using this)
def Du.sz (u : Du) : Nat := u.ws.length + u.defs.length + u.outer.length + u.wants.length + u.opn.length + u.signs.length
def Du.ok (u : Du) : Prop := u.sz ≤ 20000 ∧ ∀ g ∈ u.signs, g.2.2.length ≤ 8
theorem pl_map {β : Type} {g : β → D} {n : Nat} {l : List β} (h : ∀ b ∈ l, plB n (g b) = true) (hl : l.length < 100000) : plB (n+1) (.tup (l.map g)) = true :=
  pl_tup (fun x hx => by obtain ⟨b, hb, rfl⟩ := List.mem_map.mp hx; exact h b hb) (by simpa using hl)
theorem pl_fx {n : Nat} (f : Fx) : plB (n+1) (fD f) = true := pl_tup (fun x hx => by simp at hx; rcases hx with rfl | rfl | rfl | rfl <;> first | exact pl_nm _ | exact pl_int _) (by simp)
theorem pl_dt {n : Nat} (f : Dt) : plB (n+1) (dD f) = true := pl_tup (fun x hx => by simp at hx; rcases hx with rfl | rfl | rfl <;> first | exact pl_nm _ | exact pl_int _) (by simp)
theorem pl_wn {n : Nat} (f : Wn) : plB (n+1) (wD f) = true := pl_tup (fun x hx => by simp at hx; rcases hx with rfl | rfl | rfl <;> first | exact pl_nm _ | exact pl_int _ | exact pl_sD _) (by simp)
theorem pl_op {n : Nat} (f : Op) : plB (n+1) (oD f) = true := pl_tup (fun x hx => by simp at hx; rcases hx with rfl | rfl | rfl <;> first | exact pl_nm _ | exact pl_int _ | exact pl_sD _) (by simp)
theorem pl_ch {n : Nat} (f : Ch) (h : f.length ≤ 8) : plB (n+2) (cD f) = true := pl_map (fun b _ => pl_tup (fun x hx => by simp at hx; rcases hx with rfl | rfl <;> first | exact pl_nm _ | exact pl_int _) (by simp)) (by omega)
theorem pl_sg {n : Nat} (f : Sg) (h : f.2.2.length ≤ 8) : plB (n+3) (gD f) = true := pl_tup (fun x hx => by simp at hx; rcases hx with rfl | rfl | rfl <;> first | exact pl_ch _ h | exact pl_int _ | exact pl_sD _) (by simp)
theorem pl_du (u : Du) (h : u.ok) : plB 5 u.D = true := by
  have hz := h.1
  unfold Du.sz at hz
  refine pl_tup (fun x hx => ?_) (by simp [Du.L])
  simp only [Du.L, List.mem_cons, List.not_mem_nil, or_false] at hx
  rcases hx with rfl | rfl | rfl | rfl | rfl | rfl
  · exact pl_map (fun b _ => pl_int b) (by omega)
  · exact pl_map (fun b _ => pl_fx b) (by omega)
  · exact pl_map (fun b _ => pl_dt b) (by omega)
  · exact pl_map (fun b _ => pl_wn b) (by omega)
  · exact pl_map (fun b _ => pl_op b) (by omega)
  · exact pl_map (fun b hb => pl_sg b (h.2 b hb)) (by omega)
/-! sums -/
def shF (n : Int) (f : Fx) : Fx := (f.1, f.2.1 + n, f.2.2.1, f.2.2.2)
def shO (n : Int) (f : Op) : Op := (f.1 + n, f.2.1, f.2.2)
def shG (n : Int) (f : Sg) : Sg := (f.1 + n, f.2.1, f.2.2)
def sumU (a b : Du) : Du := ⟨a.ws ++ b.ws, a.defs ++ b.defs.map (shF a.ws.length), a.outer ++ b.outer, a.wants ++ b.wants.filter (fun w => !decide (w ∈ a.wants)), a.opn ++ b.opn.map (shO a.ws.length), a.signs ++ b.signs.map (shG a.ws.length)⟩
theorem sum_sz (a b : Du) : (sumU a b).sz ≤ a.sz + b.sz := by
  have : (b.wants.filter (fun w => !decide (w ∈ a.wants))).length ≤ b.wants.length := List.length_filter_le ..
  simp only [Du.sz, sumU, List.length_append, List.length_map]
  omega
theorem sum_ok {a b : Du} (ha : a.ok) (hb : b.ok) (h : a.sz + b.sz ≤ 20000) : (sumU a b).ok := by
  refine ⟨by have := sum_sz a b; omega, fun g hg => ?_⟩
  rcases List.mem_append.mp hg with hg | hg
  · exact ha.2 g hg
  · obtain ⟨g', hg', rfl⟩ := List.mem_map.mp hg
    exact hb.2 g' hg'
theorem sum_assoc (a b c : Du) : sumU (sumU a b) c = sumU a (sumU b c) := by
  simp only [sumU, List.map_append, List.append_assoc, List.length_append, List.map_map, List.filter_append, Du.mk.injEq, true_and]
  refine ⟨?_, ?_, ?_, ?_⟩
  · congr 2; apply List.map_congr_left; intro x _; simp only [Function.comp, shF, Prod.mk.injEq, true_and, and_true]; omega
  · congr 2
    rw [List.filter_filter]
    apply List.filter_congr
    intro x _
    simp only [List.mem_append, List.mem_filter]
    by_cases h1 : x ∈ a.wants <;> by_cases h2 : x ∈ b.wants <;> simp [h1, h2]
  · congr 2; apply List.map_congr_left; intro x _; simp only [Function.comp, shO, Prod.mk.injEq, true_and, and_true]; omega
  · congr 2; apply List.map_congr_left; intro x _; simp only [Function.comp, shG, Prod.mk.injEq, true_and, and_true]; omega
/-! the program's sum, the law's -/
def objD (u : Du) : D := .obj "Object" [("words", .tup (u.ws.map D.int)), ("functions", .tup (u.defs.map fD)), ("data", .tup (u.outer.map dD)), ("needs", .tup (u.wants.map wD)), ("places", .tup (u.opn.map oD)), ("marks", .tup (u.signs.map gD))]
@[simp] theorem der_objD (s : Sto) (u : Du) : der s (objD u) = some (objD u) := (rfl)
@[simp] theorem der_fD (s : Sto) (f : Fx) : der s (fD f) = some (fD f) := (rfl)
@[simp] theorem der_oD (s : Sto) (f : Op) : der s (oD f) = some (oD f) := (rfl)
@[simp] theorem der_gD (s : Sto) (f : Sg) : der s (gD f) = some (gD f) := (rfl)
theorem ob_w (u : Du) : atrO ["Object"] "words" [objD u] = some (.tup (u.ws.map D.int), false) := by kernel_rfl
theorem ob_f (u : Du) : atrO ["Object"] "functions" [objD u] = some (.tup (u.defs.map fD), false) := by kernel_rfl
theorem ob_d (u : Du) : atrO ["Object"] "data" [objD u] = some (.tup (u.outer.map dD), false) := by kernel_rfl
theorem ob_n (u : Du) : atrO ["Object"] "needs" [objD u] = some (.tup (u.wants.map wD), false) := by kernel_rfl
theorem ob_p (u : Du) : atrO ["Object"] "places" [objD u] = some (.tup (u.opn.map oD), false) := by kernel_rfl
theorem ob_m (u : Du) : atrO ["Object"] "marks" [objD u] = some (.tup (u.signs.map gD), false) := by kernel_rfl
theorem imm_du (u : Du) (h : u.ok) : immL u.L = true := by
  have := pl_imm (pl_du u h)
  unfold Du.D at this
  rwa [D.imm] at this
theorem init_ (k : Nat) (a b c d e f : D) : TT (k+1) "Object.__init__" [.loc 0, a, b, c, d, e, f] [.obj "Object" []] = some (.rt .none false, [.obj "Object" [("words", a), ("functions", b), ("data", c), ("needs", d), ("places", e), ("marks", f)]]) := by
  rw [show TT (k+1) "Object.__init__" = runD (TT k) GG df_Object_init from rfl, runD_out rfl (by decide)]
  simp [df_Object_init, ofString_inj]
theorem immF_ob (u : Du) (h : u.ok) : immF [("words", .tup (u.ws.map D.int)), ("functions", .tup (u.defs.map fD)), ("data", .tup (u.outer.map dD)), ("needs", .tup (u.wants.map wD)), ("places", .tup (u.opn.map oD)), ("marks", .tup (u.signs.map gD))] = true := by
  have := imm_du u h
  simp only [Du.L, immL, Bool.and_eq_true] at this
  obtain ⟨h1, h2, h3, h4, h5, h6, _⟩ := this
  simp only [immF, h1, h2, h3, h4, h5, h6, Bool.and_self]
theorem plBL_nolF (u : Du) (h : u.ok) : nolF [("words", .tup (u.ws.map D.int)), ("functions", .tup (u.defs.map fD)), ("data", .tup (u.outer.map dD)), ("needs", .tup (u.wants.map wD)), ("places", .tup (u.opn.map oD)), ("marks", .tup (u.signs.map gD))] = true := by
  have := pl_nol (pl_du u h)
  unfold Du.D Du.L at this
  rw [D.nol] at this
  simp only [nolL, Bool.and_eq_true] at this
  obtain ⟨h1, h2, h3, h4, h5, h6, _⟩ := this
  simp only [nolF, h1, h2, h3, h4, h5, h6, Bool.and_self]
theorem object_ (k : Nat) (s : Sto) (u : Du) (h : u.ok) : TT (k+2) "_law_object" [u.D] s = some (.rt (objD u) true, s) := by
  rw [show TT (k+2) "_law_object" = runD (TT (k+1)) GG df_law_object from rfl, runD_out rfl (by decide)]
  have e := init_ k (.tup (u.ws.map D.int)) (.tup (u.defs.map fD)) (.tup (u.outer.map dD)) (.tup (u.wants.map wD)) (.tup (u.opn.map oD)) (.tup (u.signs.map gD))
  have hi := immF_ob u h
  have hn := pl_nol (pl_du u h)
  unfold Du.D Du.L at hn
  rw [D.nol] at hn
  simp only [nolL, nol_tup, Bool.and_eq_true] at hn
  simp [hn, df_law_object, Du.D, Du.L, e, newP, hi, objD]
theorem parts_ (k : Nat) (s : Sto) (u : Du) : TT (k+1) "Object.parts" [objD u] s = some (.rt u.D false, s) := by
  rw [show TT (k+1) "Object.parts" = runD (TT k) GG df_Object_parts from rfl, runD_out rfl (by decide)]
  have h1 := ob_w u
  have h2 := ob_f u
  have h3 := ob_d u
  have h4 := ob_n u
  have h5 := ob_p u
  have h6 := ob_m u
  have hd := fun s => der_objD s u
  generalize objD u = o at *
  simp [df_Object_parts, h1, h2, h3, h4, h5, h6, hd, Du.D, Du.L]
theorem size_ (k : Nat) (s : Sto) (u : Du) : TT (k+1) "Object.size" [objD u] s = some (.rt (.int u.ws.length) false, s) := by
  rw [show TT (k+1) "Object.size" = runD (TT k) GG df_Object_size from rfl, runD_out rfl (by decide)]
  have h1 := ob_w u
  have hd := fun s => der_objD s u
  generalize objD u = o at *
  simp [df_Object_size, h1, hd]
theorem ob_k (u : Du) (m : Str) (hm : lookF [("words", .tup (u.ws.map D.int)), ("functions", .tup (u.defs.map fD)), ("data", .tup (u.outer.map dD)), ("needs", .tup (u.wants.map wD)), ("places", .tup (u.opn.map oD)), ("marks", .tup (u.signs.map gD))] m = none) (l : List (Str × Str)) : metK l m (some (objD u)) = l.lookup (Str.ofString "Object") := by
  unfold metK objD
  simp only [hm]; rfl
theorem is_ (k : Nat) (s : Sto) (u : Du) (h : u.ok) : TT (k+8) "_law_is" [objD u, u.D] s = some (.rt (.bool true) false, s) := by
  rw [show TT (k+8) "_law_is" = runD (TT (k+7)) GG df_law_is from rfl, runD_out rfl (by decide)]
  have e1 := parts_ (k+6) [] u
  have e2 := size_ (k+6) [] u
  have e3 := alike_pl 5 u.D (pl_du u h) (k+1) []
  have e4 := alike_pl 0 (.int u.ws.length) (pl_int _) (k+6) []
  have m1 := ob_k u "parts" (by kernel_rfl) [("Object", "Object.parts")]
  have m2 := ob_k u "size" (by kernel_rfl) [("Object", "Object.size")]
  have hi := pl_imm (pl_du u h)
  have hn := pl_nol (pl_du u h)
  have no : (objD u).nol = true := by
    show nolF _ = true
    have := plBL_nolF u h
    exact this
  have s0 : subD u.D (.int 0) = some (.tup (u.ws.map D.int)) := rfl
  have hd := fun s => der_objD s u
  have hd2 : ∀ s, der s u.D = some u.D := fun _ => rfl
  simp at m1 m2
  generalize objD u = o at *
  generalize u.D = d at *
  simp [df_law_is, hd, m1, no, e1, callP, tight, hi, hn, hd2, e3, m2, e2, D.imm, s0, e4]
section
variable {s : Sto}
theorem su_1 (k : Nat) {q0 q1 q3 q4 q5 q6 q7 : Sl} (n : Int) (l : List Fx) (hl : l.length ≤ 100000) : compL (cmpF (TT k) GG lb_law_sum_1 (.nm 8) .nil [8]) (l.map fD) [] [q0, q1, .fr (.int n), q3, q4, q5, q6, q7, .un] s = .ok (l.map fun f => fD (shF n f)) [q0, q1, .fr (.int n), q3, q4, q5, q6, q7, .un] s :=
  comp_map l (fun x _ => by simp [lb_law_sum_1, fD, shF, wipeE]) (by unfold sizeMax; omega)
theorem su_3 (k : Nat) {q0 q1 q3 q4 q5 q6 q7 : Sl} (n : Int) (l : List Op) (hl : l.length ≤ 100000) : compL (cmpF (TT k) GG lb_law_sum_3 (.nm 8) .nil [8]) (l.map oD) [] [q0, q1, .fr (.int n), q3, q4, q5, q6, q7, .un] s = .ok (l.map fun f => oD (shO n f)) [q0, q1, .fr (.int n), q3, q4, q5, q6, q7, .un] s :=
  comp_map l (fun x _ => by simp [lb_law_sum_3, oD, shO, wipeE]) (by unfold sizeMax; omega)
theorem su_4 (k : Nat) {q0 q1 q3 q4 q5 q6 q7 : Sl} (n : Int) (l : List Sg) (hl : l.length ≤ 100000) : compL (cmpF (TT k) GG lb_law_sum_4 (.nm 8) .nil [8]) (l.map gD) [] [q0, q1, .fr (.int n), q3, q4, q5, q6, q7, .un] s = .ok (l.map fun f => gD (shG n f)) [q0, q1, .fr (.int n), q3, q4, q5, q6, q7, .un] s :=
  comp_map l (fun x _ => by simp [lb_law_sum_4, gD, shG, wipeE]) (by unfold sizeMax; omega)
theorem su_2 (k : Nat) {q1 q2 q3 q4 q5 q6 q7 : Sl} (a : Du) (l : List Wn) (hl : l.length ≤ 100000) : compL (cmpF (TT k) GG lb_law_sum_2 (.nm 8) (.cons (.cmp .NotIn (.cons (.var 8) (.cons (.sub (.cons (.var 0) (.cons (.int 3) .nil))) .nil))) .nil) [8]) (l.map wD) [] [.fr a.D, q1, q2, q3, q4, q5, q6, q7, .un] s = .ok ((l.filter fun w => !decide (w ∈ a.wants)).map wD) [.fr a.D, q1, q2, q3, q4, q5, q6, q7, .un] s := by
  have := comp_pure (s := s) (f := cmpF (TT k) GG lb_law_sum_2 (.nm 8) (.cons (.cmp .NotIn (.cons (.var 8) (.cons (.sub (.cons (.var 0) (.cons (.int 3) .nil))) .nil))) .nil) [8]) (g := wD) (p := fun w => !decide (w ∈ a.wants)) (r := wD) (e := [.fr a.D, q1, q2, q3, q4, q5, q6, q7, .un]) l [] (fun x _ => by
    have e := in_wt x a.wants
    have s3 : subD a.D (.int 3) = some (.tup (a.wants.map wD)) := rfl
    have hd : ∀ s, der s a.D = some a.D := fun _ => rfl
    have hx : ∀ s, der s (wD x) = some (wD x) := fun _ => rfl
    generalize a.D = ad at *
    by_cases q : x ∈ a.wants
    · rw [decide_eq_true q] at e
      generalize wD x = wx at *
      simp [lb_law_sum_2, s3, hd, e, q, wipeE, hx]
    · rw [decide_eq_false q] at e
      generalize wD x = wx at *
      simp [lb_law_sum_2, s3, hd, e, q, wipeE, hx]) (by unfold sizeMax; simp; omega)
  simpa using this
theorem szs (u : Du) (h : u.sz ≤ 20000) : u.ws.length ≤ 20000 ∧ u.defs.length ≤ 20000 ∧ u.outer.length ≤ 20000 ∧ u.wants.length ≤ 20000 ∧ u.opn.length ≤ 20000 ∧ u.signs.length ≤ 20000 := by
  unfold Du.sz at h; omega
theorem sum_ (k : Nat) (s : Sto) (a b : Du) (ha : a.ok) (hb : b.ok) : TT (k+1) "_law_sum" [a.D, b.D] s = some (.rt (sumU a b).D false, s) := by
  rw [show TT (k+1) "_law_sum" = runD (TT k) GG df_law_sum from rfl, runD_out rfl (by decide)]
  obtain ⟨a1, a2, a3, a4, a5, a6⟩ := szs a ha.1
  obtain ⟨b1, b2, b3, b4, b5, b6⟩ := szs b hb.1
  have c1 := su_1 (s := s) k (q0 := .fr a.D) (q1 := .fr b.D) (q3 := .un) (q4 := .un) (q5 := .un) (q6 := .un) (q7 := .un) a.ws.length b.defs (by omega)
  have c2 := su_2 (s := s) k (q1 := .fr b.D) (q2 := .fr (.int a.ws.length)) (q3 := .ow (.lst (b.defs.map fun f => fD (shF a.ws.length f)))) (q4 := .un) (q5 := .un) (q6 := .un) (q7 := .un) a b.wants (by omega)
  have c3 := su_3 (s := s) k (q0 := .fr a.D) (q1 := .fr b.D) (q3 := .ow (.lst (b.defs.map fun f => fD (shF a.ws.length f)))) (q4 := .ow (.lst ((b.wants.filter fun w => !decide (w ∈ a.wants)).map wD))) (q5 := .un) (q6 := .un) (q7 := .un) a.ws.length b.opn (by omega)
  have c4 := su_4 (s := s) k (q0 := .fr a.D) (q1 := .fr b.D) (q3 := .ow (.lst (b.defs.map fun f => fD (shF a.ws.length f)))) (q4 := .ow (.lst ((b.wants.filter fun w => !decide (w ∈ a.wants)).map wD))) (q5 := .ow (.lst (b.opn.map fun f => oD (shO a.ws.length f)))) (q6 := .un) (q7 := .un) a.ws.length b.signs (by omega)
  have lf : (b.wants.filter (fun w => !decide (w ∈ a.wants))).length ≤ b.wants.length := List.length_filter_le ..
  have t0 : subD a.D (.int 0) = some (.tup (a.ws.map D.int)) := rfl
  have t1 : subD a.D (.int 1) = some (.tup (a.defs.map fD)) := rfl
  have t2 : subD a.D (.int 2) = some (.tup (a.outer.map dD)) := rfl
  have t3 : subD a.D (.int 3) = some (.tup (a.wants.map wD)) := rfl
  have t4 : subD a.D (.int 4) = some (.tup (a.opn.map oD)) := rfl
  have t5 : subD a.D (.int 5) = some (.tup (a.signs.map gD)) := rfl
  have u0 : subD b.D (.int 0) = some (.tup (b.ws.map D.int)) := rfl
  have u1 : subD b.D (.int 1) = some (.tup (b.defs.map fD)) := rfl
  have u2 : subD b.D (.int 2) = some (.tup (b.outer.map dD)) := rfl
  have u3 : subD b.D (.int 3) = some (.tup (b.wants.map wD)) := rfl
  have u4 : subD b.D (.int 4) = some (.tup (b.opn.map oD)) := rfl
  have u5 : subD b.D (.int 5) = some (.tup (b.signs.map gD)) := rfl
  have hda : ∀ s, der s a.D = some a.D := fun _ => rfl
  have hdb : ∀ s, der s b.D = some b.D := fun _ => rfl
  have z0 : a.ws.length + b.ws.length ≤ 16777216 := by omega
  have z1 : a.defs.length + b.defs.length ≤ 16777216 := by omega
  have z2 : a.outer.length + b.outer.length ≤ 16777216 := by omega
  have z3 : a.wants.length + (b.wants.filter (fun w => !decide (w ∈ a.wants))).length ≤ 16777216 := by omega
  have z4 : a.opn.length + b.opn.length ≤ 16777216 := by omega
  have z5 : a.signs.length + b.signs.length ≤ 16777216 := by omega
  have hr : (sumU a b).D = .tup [.tup (a.ws.map D.int ++ b.ws.map D.int), .tup (a.defs.map fD ++ b.defs.map fun f => fD (shF a.ws.length f)), .tup (a.outer.map dD ++ b.outer.map dD), .tup (a.wants.map wD ++ (b.wants.filter fun w => !decide (w ∈ a.wants)).map wD), .tup (a.opn.map oD ++ b.opn.map fun f => oD (shO a.ws.length f)), .tup (a.signs.map gD ++ b.signs.map fun f => gD (shG a.ws.length f))] := by
    simp [Du.D, Du.L, sumU, Function.comp_def]
  rw [hr]
  generalize a.D = ad at *
  generalize b.D = bd at *
  simp [df_law_sum, t0, t1, t2, t3, t4, t5, u0, u1, u2, u3, u4, u5, hda, hdb, c1, c2, c3, c4, wipeE, sizeMax, z0, z1, z2, z3, z4, z5]
theorem ad_1 (k : Nat) {q0 q1 q3 q4 q5 q10 q11 q12 q13 : Sl} (n : Int) (l : List Fx) (hl : l.length ≤ 100000) : compL (cmpF (TT k) GG lb_Object__add_1 (.tp (.cons (.nm 6) (.cons (.nm 7) (.cons (.nm 8) (.cons (.nm 9) .nil))))) .nil [6, 7, 8, 9]) (l.map fD) [] [q0, q1, .fr (.int n), q3, q4, q5, .un, .un, .un, .un, q10, q11, q12, q13] s = .ok (l.map fun f => fD (shF n f)) [q0, q1, .fr (.int n), q3, q4, q5, .un, .un, .un, .un, q10, q11, q12, q13] s :=
  comp_map l (fun x _ => by simp [lb_Object__add_1, fD, shF, wipeE, Int.add_comm]) (by unfold sizeMax; omega)
theorem ad_2 (k : Nat) {q0 q1 q3 q4 q5 q7 q8 q9 q12 q13 : Sl} (n : Int) (l : List Op) (hl : l.length ≤ 100000) : compL (cmpF (TT k) GG lb_Object__add_2 (.tp (.cons (.nm 10) (.cons (.nm 11) (.cons (.nm 6) .nil)))) .nil [10, 11, 6]) (l.map oD) [] [q0, q1, .fr (.int n), q3, q4, q5, .un, q7, q8, q9, .un, .un, q12, q13] s = .ok (l.map fun f => oD (shO n f)) [q0, q1, .fr (.int n), q3, q4, q5, .un, q7, q8, q9, .un, .un, q12, q13] s :=
  comp_map l (fun x _ => by simp [lb_Object__add_2, oD, shO, wipeE, Int.add_comm]) (by unfold sizeMax; omega)
theorem ad_3 (k : Nat) {q0 q1 q3 q4 q5 q6 q7 q8 q9 q13 : Sl} (n : Int) (l : List Sg) (hl : l.length ≤ 100000) : compL (cmpF (TT k) GG lb_Object__add_3 (.tp (.cons (.nm 10) (.cons (.nm 11) (.cons (.nm 12) .nil)))) .nil [10, 11, 12]) (l.map gD) [] [q0, q1, .fr (.int n), q3, q4, q5, q6, q7, q8, q9, .un, .un, .un, q13] s = .ok (l.map fun f => gD (shG n f)) [q0, q1, .fr (.int n), q3, q4, q5, q6, q7, q8, q9, .un, .un, .un, q13] s :=
  comp_map l (fun x _ => by simp [lb_Object__add_3, gD, shG, wipeE, Int.add_comm]) (by unfold sizeMax; omega)
theorem ad_4 (k : Nat) {q1 q2 q3 q4 q5 q6 q7 q8 q9 q10 q11 q12 : Sl} (a : Du) (l : List Wn) (hl : l.length ≤ 100000) : compL (cmpF (TT k) GG lb_Object__add_4 (.nm 13) (.cons (.cmp .NotIn (.cons (.var 13) (.cons (.atr ["Object"] "needs" (.cons (.var 0) .nil)) .nil))) .nil) [13]) (l.map wD) [] [.fr (objD a), q1, q2, q3, q4, q5, q6, q7, q8, q9, q10, q11, q12, .un] s = .ok ((l.filter fun w => !decide (w ∈ a.wants)).map wD) [.fr (objD a), q1, q2, q3, q4, q5, q6, q7, q8, q9, q10, q11, q12, .un] s := by
  have := comp_pure (s := s) (f := cmpF (TT k) GG lb_Object__add_4 (.nm 13) (.cons (.cmp .NotIn (.cons (.var 13) (.cons (.atr ["Object"] "needs" (.cons (.var 0) .nil)) .nil))) .nil) [13]) (g := wD) (p := fun w => !decide (w ∈ a.wants)) (r := wD) (e := [.fr (objD a), q1, q2, q3, q4, q5, q6, q7, q8, q9, q10, q11, q12, .un]) l [] (fun x _ => by
    have e := in_wt x a.wants
    have s3 := ob_n a
    have hd : ∀ s, der s (objD a) = some (objD a) := fun _ => rfl
    have hx : ∀ s, der s (wD x) = some (wD x) := fun _ => rfl
    generalize objD a = ad at *
    by_cases q : x ∈ a.wants
    · rw [decide_eq_true q] at e
      generalize wD x = wx at *
      simp [lb_Object__add_4, s3, hd, e, q, wipeE, hx]
    · rw [decide_eq_false q] at e
      generalize wD x = wx at *
      simp [lb_Object__add_4, s3, hd, e, q, wipeE, hx]) (by unfold sizeMax; simp; omega)
  simpa using this
end
theorem add_ (k : Nat) (s : Sto) (a b : Du) (ha : a.ok) (hb : b.ok) (hab : a.sz + b.sz ≤ 20000) : TT (k+2) "Object.__add__" [objD a, objD b] s = some (.rt (objD (sumU a b)) true, s) := by
  rw [show TT (k+2) "Object.__add__" = runD (TT (k+1)) GG df_Object__add from rfl, runD_out rfl (by decide)]
  obtain ⟨a1, a2, a3, a4, a5, a6⟩ := szs a ha.1
  obtain ⟨b1, b2, b3, b4, b5, b6⟩ := szs b hb.1
  have c1 := ad_1 (s := s) (k+1) (q0 := .fr (objD a)) (q1 := .fr (objD b)) (q3 := .un) (q4 := .un) (q5 := .un) (q10 := .un) (q11 := .un) (q12 := .un) (q13 := .un) a.ws.length b.defs (by omega)
  have c2 := ad_2 (s := s) (k+1) (q0 := .fr (objD a)) (q1 := .fr (objD b)) (q3 := .ow (.lst (b.defs.map fun f => fD (shF a.ws.length f)))) (q4 := .un) (q5 := .un) (q7 := .un) (q8 := .un) (q9 := .un) (q12 := .un) (q13 := .un) a.ws.length b.opn (by omega)
  have c3 := ad_3 (s := s) (k+1) (q0 := .fr (objD a)) (q1 := .fr (objD b)) (q3 := .ow (.lst (b.defs.map fun f => fD (shF a.ws.length f)))) (q4 := .ow (.lst (b.opn.map fun f => oD (shO a.ws.length f)))) (q5 := .un) (q6 := .un) (q7 := .un) (q8 := .un) (q9 := .un) (q13 := .un) a.ws.length b.signs (by omega)
  have c4 := ad_4 (s := s) (k+1) (q1 := .fr (objD b)) (q2 := .fr (.int a.ws.length)) (q3 := .ow (.lst (b.defs.map fun f => fD (shF a.ws.length f)))) (q4 := .ow (.lst (b.opn.map fun f => oD (shO a.ws.length f)))) (q5 := .ow (.lst (b.signs.map fun f => gD (shG a.ws.length f)))) (q6 := .un) (q7 := .un) (q8 := .un) (q9 := .un) (q10 := .un) (q11 := .un) (q12 := .un) a b.wants (by omega)
  have lf : (b.wants.filter (fun w => !decide (w ∈ a.wants))).length ≤ b.wants.length := List.length_filter_le ..
  have t0 := ob_w a
  have t1 := ob_f a
  have t2 := ob_d a
  have t3 := ob_n a
  have t4 := ob_p a
  have t5 := ob_m a
  have u0 := ob_w b
  have u1 := ob_f b
  have u2 := ob_d b
  have u3 := ob_n b
  have u4 := ob_p b
  have u5 := ob_m b
  have hda : ∀ s, der s (objD a) = some (objD a) := fun _ => rfl
  have hdb : ∀ s, der s (objD b) = some (objD b) := fun _ => rfl
  have z0 : a.ws.length + b.ws.length ≤ 16777216 := by omega
  have z1 : a.defs.length + b.defs.length ≤ 16777216 := by omega
  have z2 : a.outer.length + b.outer.length ≤ 16777216 := by omega
  have z3 : a.wants.length + (b.wants.filter (fun w => !decide (w ∈ a.wants))).length ≤ 16777216 := by omega
  have z4 : a.opn.length + b.opn.length ≤ 16777216 := by omega
  have z5 : a.signs.length + b.signs.length ≤ 16777216 := by omega
  have sok := sum_ok ha hb hab
  have hi := immF_ob (sumU a b) sok
  have hn := pl_nol (pl_du (sumU a b) sok)
  unfold Du.D Du.L at hn
  rw [D.nol] at hn
  have e := init_ k (.tup ((sumU a b).ws.map D.int)) (.tup ((sumU a b).defs.map fD)) (.tup ((sumU a b).outer.map dD)) (.tup ((sumU a b).wants.map wD)) (.tup ((sumU a b).opn.map oD)) (.tup ((sumU a b).signs.map gD))
  simp only [nolL, nol_tup, Bool.and_eq_true] at hn
  have w0 : (sumU a b).ws.map D.int = a.ws.map D.int ++ b.ws.map D.int := by simp [sumU]
  have w1 : (sumU a b).defs.map fD = a.defs.map fD ++ b.defs.map fun f => fD (shF a.ws.length f) := by simp [sumU, Function.comp_def]
  have w2 : (sumU a b).outer.map dD = a.outer.map dD ++ b.outer.map dD := by simp [sumU]
  have w3 : (sumU a b).wants.map wD = a.wants.map wD ++ (b.wants.filter fun w => !decide (w ∈ a.wants)).map wD := by simp [sumU]
  have w4 : (sumU a b).opn.map oD = a.opn.map oD ++ b.opn.map fun f => oD (shO a.ws.length f) := by simp [sumU, Function.comp_def]
  have w5 : (sumU a b).signs.map gD = a.signs.map gD ++ b.signs.map fun f => gD (shG a.ws.length f) := by simp [sumU, Function.comp_def]
  have ho : objD (sumU a b) = .obj "Object" [("words", .tup ((sumU a b).ws.map D.int)), ("functions", .tup ((sumU a b).defs.map fD)), ("data", .tup ((sumU a b).outer.map dD)), ("needs", .tup ((sumU a b).wants.map wD)), ("places", .tup ((sumU a b).opn.map oD)), ("marks", .tup ((sumU a b).signs.map gD))] := rfl
  rw [ho]
  simp only [w0, w1, w2, w3, w4, w5] at hi hn e ⊢
  clear w0 w1 w2 w3 w4 w5 ho sok
  generalize objD a = ad at *
  generalize objD b = bd at *
  have zz : (a.ws.map D.int).length = a.ws.length ∧ (b.ws.map D.int).length = b.ws.length ∧ (a.defs.map fD).length = a.defs.length ∧ (a.outer.map dD).length = a.outer.length ∧ (b.outer.map dD).length = b.outer.length ∧ (a.wants.map wD).length = a.wants.length ∧ (a.opn.map oD).length = a.opn.length ∧ (a.signs.map gD).length = a.signs.length := by simp
  simp only [df_Object__add]
  generalize hw1 : b.defs.map (fun f => fD (shF a.ws.length f)) = l1 at *
  generalize hw2 : b.opn.map (fun f => oD (shO a.ws.length f)) = l2 at *
  generalize hw3 : b.signs.map (fun f => gD (shG a.ws.length f)) = l3 at *
  have y1 : l1.length = b.defs.length := by rw [← hw1]; simp
  have y2 : l2.length = b.opn.length := by rw [← hw2]; simp
  have y3 : l3.length = b.signs.length := by rw [← hw3]; simp
  simp at hn e hi
  simp [t0, t1, t2, t3, t4, t5, u0, u1, u2, u3, u4, u5, hda, hdb, c1, c2, c3, c4, wipeE, sizeMax, z0, z1, z2, z3, z4, z5, y1, y2, y3, hn, e, newP, hi]
/-! the law -/
theorem nol_ob (u : Du) (h : u.ok) : (objD u).nol = true := by
  show nolF _ = true
  exact plBL_nolF u h
theorem callP_ob {u : Du} (h : u.ok) {e : En} {as : List Ar} {s s' : Sto} : callP (some (.rt (objD u) true, s')) e as s = .ok (objD u, true) e s := by
  have : tight (objD u) true = true := by
    unfold tight
    rw [show immH (objD u) = true from immF_ob u h]; simp
  unfold callP
  simp only [this, if_true]
theorem callP_du {u : Du} (h : u.ok) {e : En} {as : List Ar} {s s' : Sto} : callP (some (.rt u.D false, s')) e as s = .ok (u.D, false) e s := by
  have hi := pl_imm (pl_du u h)
  simp [callP, tight, hi]
theorem key_ob (u : Du) : metK [("Object", "Object.__add__")] "__add__" (some (objD u)) = some "Object.__add__" := by kernel_rfl
theorem same_ob (u v : Du) : sameC (objD u) (objD v) = true := by kernel_rfl
theorem du_ok {t : Th} (h : t.ok) (hz : t.sz ≤ 20000) : t.du.ok := by
  refine ⟨by simp only [Du.sz, Th.du, List.length_map]; exact hz, fun g hg => (h.signs g hg).2.1⟩
theorem du_sz (t : Th) : t.du.sz = t.sz := by simp [Du.sz, Th.du, Th.sz]
theorem plain : Plain (runD (TT 30) GG df_law) 63 := fun ns hl => by
  have e0 := pool_eq (B := TT 29) (G := GG) (s := []) hl
  rw [← t_pool] at e0
  have et := table_ 29 []
  have p0 : PA 0 ns [pl ns 0 0 11] [pl ns 0 0 11] := PA.new (s := []) hl
  obtain ⟨t1, s1, e1, p1, o1, z1⟩ := thing_ (b := [pl ns 0 0 11]) 24 (by simp) p0
  obtain ⟨t2, s2, e2, p2, o2, z2⟩ := thing_ (b := [pl ns 0 0 11] ++ (t1.L 1 ++ [])) 24 (by simp) p1.2
  obtain ⟨t3, s3, e3, p3, o3, z3⟩ := thing_ (b := ([pl ns 0 0 11] ++ (t1.L 1 ++ [])) ++ (t2.L 8 ++ [])) 24 (by simp) p2.2
  have q3 : PA 0 ns ([pl ns 0 0 11] ++ t1.L 1 ++ t2.L 8 ++ t3.L 15) s3 := by simpa using p3.2
  -- the second thing
  have v1 : PT 0 ns [pl ns 0 0 11] (t2.L 8 ++ t3.L 15) t1 s3 := ⟨by simp, by simpa using q3⟩
  have v2 : LN 0 ns ([pl ns 0 0 11] ++ t1.L 1) (t3.L 15) t2 1000 s3 := ⟨t2.wants, ⟨by simp, by simpa using q3⟩, o2.wants, by unfold Th.sz at z2; omega⟩
  have lw1 : t1.wants.length ≤ 1000 := by unfold Th.sz at z1; omega
  obtain ⟨s4, e4, w2, p4, ow2, lw2⟩ := like_needs_ 27 t1.wants o1.wants 1000 v2 (by omega)
  have q4 : PA 0 ns ([pl ns 0 0 11] ++ t1.L 1 ++ ({ t2 with wants := w2 } : Th).L 8 ++ t3.L 15) s4 := by simpa using p4.2
  have v1b : PT 0 ns [pl ns 0 0 11] (({ t2 with wants := w2 } : Th).L 8 ++ t3.L 15) t1 s4 := ⟨by simp, by simpa using q4⟩
  have v2b : PT 0 ns ([pl ns 0 0 11] ++ t1.L 1) (t3.L 15) { t2 with wants := w2 } s4 := ⟨by simp, by simpa using q4⟩
  have v3b : LN 0 ns ([pl ns 0 0 11] ++ t1.L 1 ++ ({ t2 with wants := w2 } : Th).L 8) [] t3 1000 s4 := ⟨t3.wants, ⟨by simp, by simpa using q4⟩, o3.wants, by unfold Th.sz at z3; omega⟩
  obtain ⟨s5, e5, w3, p5, ow3, lw3⟩ := like_needs_ 27 (t1.wants ++ w2) (fun w hw => by
    rcases List.mem_append.mp hw with hw | hw
    · exact o1.wants w hw
    · exact ow2 w hw) 1000 v3b (by simp; omega)
  have q5 : PA 0 ns ([pl ns 0 0 11] ++ t1.L 1 ++ ({ t2 with wants := w2 } : Th).L 8 ++ ({ t3 with wants := w3 } : Th).L 15) s5 := by simpa using p5.2
  have v1c : PT 0 ns [pl ns 0 0 11] (({ t2 with wants := w2 } : Th).L 8 ++ ({ t3 with wants := w3 } : Th).L 15) t1 s5 := ⟨by simp, by simpa using q5⟩
  have v2c : PT 0 ns ([pl ns 0 0 11] ++ t1.L 1) (({ t3 with wants := w3 } : Th).L 15) { t2 with wants := w2 } s5 := ⟨by simp, by simpa using q5⟩
  have v3c : PT 0 ns ([pl ns 0 0 11] ++ t1.L 1 ++ ({ t2 with wants := w2 } : Th).L 8) [] { t3 with wants := w3 } s5 := ⟨by simp, by simpa using q5⟩
  have ok2 : ({ t2 with wants := w2 } : Th).ok := ⟨o2.rows, o2.signs, ow2⟩
  have ok3 : ({ t3 with wants := w3 } : Th).ok := ⟨o3.rows, o3.signs, ow3⟩
  have sz2 : ({ t2 with wants := w2 } : Th).sz ≤ 3000 := by unfold Th.sz at z2 ⊢; simp only; omega
  have sz3 : ({ t3 with wants := w3 } : Th).sz ≤ 5000 := by
    rw [List.length_append] at lw3
    unfold Th.sz at z3 ⊢; simp only; omega
  have d1 := parts_of_ 28 v1c o1 (by omega)
  have d2 := parts_of_ 28 v2c ok2 (by omega)
  have d3 := parts_of_ 28 v3c ok3 (by omega)
  have f1 := v1.a3
  have f1' := v1.a6
  have g1 := v1b.a3
  have g1' := v1b.a6
  have g2 := v2b.a3
  have g2' := v2b.a6
  have A := du_ok o1 (by omega)
  have B := du_ok ok2 (by omega)
  have C := du_ok ok3 (by omega)
  have zA := du_sz t1
  have zB := du_sz { t2 with wants := w2 }
  have zC := du_sz { t3 with wants := w3 }
  have lww : t1.wants.length + w2.length ≤ 16777216 := by omega
  simp only [List.length_append, L_len, List.length_cons, List.length_nil, Nat.zero_add, Nat.add_zero] at e1 e2 e3 e4 e5 d1 d2 d3 f1 f1' g1 g1' g2 g2'
  generalize ({ t2 with wants := w2 } : Th).du = b at *
  generalize ({ t3 with wants := w3 } : Th).du = c at *
  generalize t1.du = a at *
  clear p1 p2 p3 q3 v1 v2 q4 v1b v2b v3b q5 v1c v2c v3c p4 p5 ok2 ok3 o1 o2 o3 ow2 ow3
  have ab := sum_ok A B (by omega)
  have bc := sum_ok B C (by omega)
  have bb := sum_ok B B (by omega)
  have sab := sum_sz a b
  have sbc := sum_sz b c
  have abc := sum_ok ab C (by omega)
  have bbc := sum_ok A bc (by omega)
  have ea := object_ 28 [] a A
  have eb := object_ 28 [] b B
  have ec := object_ 28 [] c C
  have m1 := sum_ 29 [] a b A B
  have m2 := sum_ 29 [] (sumU a b) c ab C
  have m3 := sum_ 29 [] b c B C
  have m4 := sum_ 29 [] b b B B
  have n1 := add_ 28 [] a b A B (by omega)
  have n2 := add_ 28 [] (sumU a b) c ab C (by omega)
  have n3 := add_ 28 [] b c B C (by omega)
  have n4 := add_ 28 [] a (sumU b c) A bc (by omega)
  have n5 := add_ 28 [] b b B B (by omega)
  rw [← sum_assoc] at n4
  have i1 := is_ 22 [] (sumU a b) ab
  have i2 := is_ 22 [] (sumU (sumU a b) c) abc
  have i3 := is_ 22 [] (sumU b c) bc
  have i4 := is_ 22 [] (sumU b b) bb
  have i5 := is_ 22 [] a A
  have i6 := is_ 22 [] b B
  have i7 := is_ 22 [] c C
  have dd : ∀ (s : Sto) (u : Du), der s u.D = some u.D := fun _ _ => rfl
  have dn : ∀ u : Du, u.ok → u.D.nol = true := fun u h => pl_nol (pl_du u h)
  have na := dn a A
  have nb := dn b B
  have nc := dn c C
  have nab := dn _ ab
  have nbc := dn _ bc
  have nbb := dn _ bb
  have nabc := dn _ abc
  have oa := nol_ob a A
  have ob := nol_ob b B
  have oc := nol_ob c C
  have oab := nol_ob _ ab
  have obc := nol_ob _ bc
  have obb := nol_ob _ bb
  have oabc := nol_ob _ abc
  have ka := key_ob a
  have kb := key_ob b
  have kc := key_ob c
  have kab := key_ob (sumU a b)
  have kbc := key_ob (sumU b c)
  simp at ka kb kc kab kbc
  have tk : (D.dic tbK).nol = true := nol_tbK
  have ct : ∀ (e : En) (as : List Ar) (s s' : Sto), callP (some (.rt (.dic tbK) false, s')) e as s = .ok (.dic tbK, false) (fz e as) s := fun e as s s' => by simp [callP, tight, D.imm, tk]
  simp only [dcD] at f1' g1' g2'
  have r3 : rangeL 0 3 = [.int 0, .int 1, .int 2] := by rfl
  have s3' : small62 3 = true := by decide
  refine ⟨s5, ?_⟩
  rw [runD_out rfl (by decide)]
  simp at e0 e1 e2 e3 e4 e5 d1 d2 d3 f1 f1' g1 g1' g2 g2'
  simp [df_law, e0, et, ct, lb_law_1, wipeE, e1, e2, e3, f1, f1', e4, g1, g1', g2, g2', lww, e5, r3, s3', sizeMax, lb_law_2, d1, d2, d3, na, nb, nc, nab, nbc, nbb, nabc, oa, ob, oc, oab, obc, obb, oabc, ea, eb, ec, callP_ob A, callP_ob B, callP_ob C, callP_ob ab, callP_ob bc, callP_ob bb, callP_ob abc, callP_du A, callP_du B, callP_du C, callP_du ab, callP_du bc, callP_du bb, callP_du abc, m1, m2, m3, m4, n1, n2, n3, n4, n5, dd, der_objD, ka, kb, kc, kab, kbc, same_ob, i1, i2, i3, i4, i5, i6, i7]
end Lk60

open PySem PySem.W PySem.Calls PyProof.Rows in
set_option maxRecDepth 100000 in
set_option maxHeartbeats 0 in
theorem PySem.Challenge.cw_sameruns_k60_join_brackets_holds : PySem.Challenge.rw_sameruns_k60_join_brackets.Holds := by
  w_on; o_law
  refine HandSHeadRun.head_any (r := Lk60.hR) (q := view Lk60.hR.prog [27]) (H := Lk60.hk) (ob := Lk60.ob) (M := 30000) (loose := Lk60.loose) (d := HandSHeadRun.topDef Lk60.hR.prog 27) (kwd := []) Lk60.ob_eq
    (by kernel_rfl) (fun s => by kernel_rfl) Lk60.run (by kernel_rfl) (by kernel_rfl) (by kernel_rfl) (by rfl) (by first | assumption | decide +kernel) (by decide +kernel) ⟨rfl, rfl, rfl, rfl, rfl, by decide +kernel⟩ ?hw ?hc
  case hw => w_witness2
  case hc =>
    refine Pv.walkP (l := PySem.Challenge.rw_sameruns_k60_join_brackets) (n := 63) (k := 64) (x := "_law_script") rfl (by decide) (by kernel_rfl) ⟨rfl, by decide, by decide⟩ ?F
    intro w mg fa h Y G hmg0
    obtain ⟨K, KX, c⟩ := Y
    have hmg : mg ("law" : PySem.Str) = some (.ref fa) := by
      have e : (HandSHeadRun.topDef Lk60.hR.prog 27).name = ("law" : PySem.Str) := by kernel_rfl
      rw [← e]; exact hmg0
    obtain ⟨fd, hb, hF⟩ := Lk60.facts (P := (PySem.Challenge.rw_sameruns_k60_join_brackets).prog) (w := w) KX G hmg c Lk60.plain
    exact ⟨K, fd, KX, hb, hF⟩

