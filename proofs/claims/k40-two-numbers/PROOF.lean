import PyProof.Rows.All
import Wide.All
import OpenK.AllK
import Wide.FinOn
import HandS.ForMost
import HandS.Wide
import HandS.TupAny
import HandS.TupMul
import HandS.ForExc
import HandS.CallSlots
import HandS.Defaults
import HandS.IsInst
import HandS.Walk
import HandS.Codes
import HandS.HeadHook1
import HandS.HeadHook2
import HandS.HeadHook3
import HandS.HeadHook4
import KE.KStateDown
import HandS.Head0
import HandS.Head1
import HandS.Head2
import PySem.Challenge.RW_elderhouse_k40_two_numbers
set_option Elab.async false
set_option linter.all false
set_option maxRecDepth 100000
/-! PyDen: a small semantics of the Python at hand: values (tuples are values), a heap as a list, a reading of each form as a predicate transformer. -/
namespace Py
open PySem

/-! ### values and objects -/
inductive PV where
  | non | bl (b : Bool) | int (i : Int) | str (s : Str) | tup (xs : List PV) | ref (a : Nat)
inductive PO where
  | lst (xs : List PV)
  | frl (xs : List PV)
  | dic (kvs : List (PV × PV))
  | ins (c : Nat) (fs : List (Nat × PV))
abbrev PH := List PO
abbrev Loc := List (Option PV)
abbrev KQ := PV → PH → Prop
structure XV where
  c : Nat
  fs : List (Nat × PV)
abbrev KX := XV → PH → Prop
abbrev SZ : Nat := 16777216

/-! ### syntax -/
inductive BO where
  | add | sub | mul | fdiv | mod | pow
  deriving DecidableEq
inductive CO where
  | eq | ne | lt | le | gt | ge | inn | nin | isN | notN
  deriving DecidableEq
/-- built-in functions -/
inductive BF where
  | len | list1 | tuple1 | tuple0 | isInt | isBool | isStr | isList | isTuple | min2 | max2 | minL | maxL | sumL | abs | int1 | str1 | repr1 | sorted1 | all1 | dict1 | dict0
  deriving DecidableEq
/-- methods of built-in types -/
inductive BM where
  | append | extend | pop0 | pop1 | insert | reverse | clear | index | get1 | get2 | join | split | startswith | update
  deriving DecidableEq
mutual
inductive E where
  | var (i : Nat) | int (i : Int) | str (s : Str) | bl (b : Bool) | non
  | glob (g : Nat)
  | bin (o : BO) (a b : E) | neg (a : E) | nt (a : E) | and (a b : E) | or (a b : E)
  | cmp (o : CO) (a b : E) | chain (o o' : CO) (a b c : E) | ite (c : C) (a b : E)
  | tup (es : Es) | lst (es : Es) | dic0
  | idx (a b : E) | slc (a : E) (lo hi : OE)
  | attr (a : E) (f : Nat)
  | call (f : Nat) (args : Es) | mk (c : Nat) (args : Es) | meth (o : E) (m : Nat) (args : Es) | ini (c : Nat) (args : Es)
  | isi (f : BF) (a : E) | bf (f : BF) (args : Es) | bm (m : BM) (o : E) (args : Es)
  | lc (elt : E) (t : T) (it : I) (cond : OC)
inductive Es where
  | nil | cons (e : E) (es : Es)
inductive OE where
  | no | so (e : E)
/-- tests -/
inductive C where
  | v (e : E) | cmp (o : CO) (a b : E) | chain (o o' : CO) (a b c : E) | nt (c : C) | and (a b : C) | or (a b : C)
inductive OC where
  | no | so (c : C)
/-- what a loop walks -/
inductive I where
  | seq (e : E) | rng1 (a : E) | rng2 (a b : E) | enu (e : E) | zip2 (a b : E) | rev (e : E)
/-- targets -/
inductive T where
  | nm (i : Nat) | tup (ts : Ts) | attr (o : E) (f : Nat) | sub (o i : E)
inductive Ts where
  | nil | cons (t : T) (ts : Ts)
end
mutual
inductive S where
  | asg (t : T) (e : E) | aug (i : Nat) (o : BO) (e : E) | augF (ob : E) (f : Nat) (o : BO) (e : E) | augS (ob ix : E) (o : BO) (e : E)
  | exp (e : E) | ret (e : E) | retN | ife (c : C) (a b : B) | for (t : T) (it : I) (b : B) | whl (c : C) (b : B) | pas | cont
  | rais (c : Nat) (args : Es)
inductive B where
  | nil | cons (s : S) (b : B)
end

/-! ### looks at the heap -/
def lstOf (h : PH) : PV → Option (List PV)
  | .ref a => match h[a]? with
    | some (.lst xs) => some xs
    | some (.frl xs) => some xs
    | _ => none
  | _ => none
def seqOf (h : PH) : PV → Option (List PV)
  | .tup xs => some xs
  | v => lstOf h v
def dicOf (h : PH) : PV → Option (List (PV × PV))
  | .ref a => match h[a]? with
    | some (.dic kvs) => some kvs
    | _ => none
  | _ => none
def truV (h : PH) : PV → Option Bool
  | .non => some false
  | .bl b => some b
  | .int i => some (i != 0)
  | .str s => if s.length ≤ SZ then some ((s.length : Int) != 0) else none
  | .tup xs => some (!xs.isEmpty)
  | .ref a => match h[a]? with
    | some (.lst xs) => some (!xs.isEmpty)
    | some (.frl xs) => some (!xs.isEmpty)
    | some (.dic kvs) => some (!kvs.isEmpty)
    | _ => none
/-! a value as data -/
mutual
def Dat (h : PH) : PyData → PV → Prop
  | .none, v => v = .non
  | .bool b, v => v = .bl b
  | .int i, v => v = .int i
  | .str s, v => v = .str s
  | .tuple ds, v => ∃ xs, v = .tup xs ∧ Dats h ds xs
  | .list ds, v => ∃ xs, lstOf h v = some xs ∧ Dats h ds xs
  | .dict _, _ => False
def Dats (h : PH) : List PyData → List PV → Prop
  | [], xs => xs = []
  | d :: ds, xs => ∃ y ys, xs = y :: ys ∧ Dat h d y ∧ Dats h ds ys
end
def putN (f : Nat) (v : PV) : List (Nat × PV) → List (Nat × PV)
  | [] => [(f, v)]
  | (g, x) :: r => if g = f then (g, v) :: r else (g, x) :: putN f v r
def getN (f : Nat) : List (Nat × PV) → Option PV
  | [] => none
  | (g, x) :: r => if g = f then some x else getN f r
def ixN (n : Nat) (i : Int) : Option Nat := if 0 ≤ i then (if i < n then some i.toNat else none) else if -(n : Int) ≤ i then some (i + n).toNat else none
def atI {α : Type} (xs : List α) (i : Int) : Option α := (ixN xs.length i).bind fun j => xs[j]?
def sIx (n d : Nat) : Option Int → Nat
  | none => d
  | some v => if v < 0 then (v + (n : Int)).toNat else min v.toNat n
def cut {α : Type} (xs : List α) (lo hi : Option Int) : List α := (xs.drop (sIx xs.length 0 lo)).take (sIx xs.length xs.length hi - sIx xs.length 0 lo)

/-! ### operators -/
def mulOk (i j : Int) : Prop := (-(2 ^ 64) < i ∧ i < 2 ^ 64) ∨ (-(2 ^ 64) < j ∧ j < 2 ^ 64)
def binV : BO → PV → PV → PH → KQ → Prop
  | .add, .int i, .int j, h, Q => Q (.int (i + j)) h
  | .add, .str i, .str j, h, Q => i.length + j.length ≤ SZ ∧ Q (.str (i ++ j)) h
  | .add, .tup xs, .tup ys, h, Q => xs.length + ys.length ≤ SZ ∧ Q (.tup (xs ++ ys)) h
  | .add, .ref a, .ref b, h, Q => ∃ xs ys, h[a]? = some (.lst xs) ∧ h[b]? = some (.lst ys) ∧ xs.length + ys.length ≤ SZ ∧ Q (.ref h.length) (h ++ [.lst (xs ++ ys)])
  | .sub, .int i, .int j, h, Q => Q (.int (i - j)) h
  | .mul, .int i, .int j, h, Q => mulOk i j ∧ Q (.int (i * j)) h
  | .mul, .ref a, .int k, h, Q => ∃ xs, h[a]? = some (.lst xs) ∧ -(2 ^ 63) ≤ k ∧ k < 2 ^ 63 ∧ xs.length * k.toNat ≤ SZ ∧ Q (.ref h.length) (h ++ [.lst (List.replicate k.toNat xs).flatten])
  | .fdiv, .int i, .int j, h, Q => j ≠ 0 ∧ j.natAbs.log2 < 9000 ∧ Q (.int (i.fdiv j)) h
  | .mod, .int i, .int j, h, Q => j ≠ 0 ∧ Q (.int (i.fmod j)) h
  | .pow, .int i, .int j, h, Q => (0 ≤ j ∧ j ≤ 1000000 ∧ i.natAbs < 2 ^ 64) ∧ Q (.int (i ^ j.toNat)) h
  | _, _, _, _, _ => False
def isNonB : PV → Bool
  | .non => true
  | _ => false
def cmpV : CO → PV → PV → PH → (Bool → PH → Prop) → Prop
  | .eq, x, y, h, Q => ∃ d e, Dat h d x ∧ Dat h e y ∧ SeqAt.shaped d = true ∧ SeqAt.shaped e = true ∧ Q (PyData.eqv d e) h
  | .ne, x, y, h, Q => ∃ d e, Dat h d x ∧ Dat h e y ∧ SeqAt.shaped d = true ∧ SeqAt.shaped e = true ∧ Q (!PyData.eqv d e) h
  | .lt, .int i, .int j, h, Q => Q (decide (i < j)) h
  | .le, .int i, .int j, h, Q => Q (decide (i ≤ j)) h
  | .gt, .int i, .int j, h, Q => Q (decide (j < i)) h
  | .ge, .int i, .int j, h, Q => Q (decide (j ≤ i)) h
  | .isN, x, .non, h, Q => Q (isNonB x) h
  | .notN, x, .non, h, Q => Q (!isNonB x) h
  | _, _, _, _, _ => False
def idxV : PV → PV → PH → KQ → Prop
  | .tup xs, .int i, h, Q => ∃ v, atI xs i = some v ∧ Q v h
  | .str s, .int i, h, Q => s.length ≤ SZ ∧ ∃ c, atI s.cps.toList i = some c ∧ Q (.str ⟨#[c]⟩) h
  | .ref a, .int i, h, Q => ∃ xs v, lstOf h (.ref a) = some xs ∧ atI xs i = some v ∧ Q v h
  | _, _, _, _ => False
def slcV : PV → Option Int → Option Int → PH → KQ → Prop
  | .tup xs, lo, hi, h, Q => Q (.tup (cut xs lo hi)) h
  | .ref a, lo, hi, h, Q => ∃ xs, lstOf h (.ref a) = some xs ∧ Q (.ref h.length) (h ++ [.lst (cut xs lo hi)])
  | _, _, _, _, _ => False

/-! ### built-in functions, methods -/
/-- the type of a value -/
def tyN (h : PH) : PV → Option String
  | .non => some "NoneType"
  | .bl _ => some "bool"
  | .int _ => some "int"
  | .str _ => some "str"
  | .tup _ => some "tuple"
  | .ref a => match h[a]? with
    | some (.lst _) => some "list"
    | some (.frl _) => some "list"
    | some (.dic _) => some "dict"
    | _ => none
def isB (T : String) (t : String) : Bool := t == T || (T == "int" && t == "bool")
def tyOf : BF → String
  | .isInt => "int"
  | .isBool => "bool"
  | .isStr => "str"
  | .isList => "list"
  | _ => "tuple"
def bfV : BF → List PV → PH → KQ → Prop
  | .len, [.str s], h, Q => s.length ≤ SZ ∧ Q (.int s.length) h
  | .len, [v], h, Q => ∃ xs, seqOf h v = some xs ∧ Q (.int xs.length) h
  | .list1, [v], h, Q => ∃ xs, seqOf h v = some xs ∧ Q (.ref h.length) (h ++ [.lst xs])
  | .tuple1, [.tup xs], h, Q => Q (.tup xs) h
  | .tuple1, [v], h, Q => ∃ xs, lstOf h v = some xs ∧ Q (.tup xs) h
  | .min2, [.int i, .int j], h, Q => Q (.int (if j < i then j else i)) h
  | .max2, [.int i, .int j], h, Q => Q (.int (if j > i then j else i)) h
  | .abs, [.int i], h, Q => Q (.int (if i < 0 then -i else i)) h
  | _, _, _, _ => False
def bmV : BM → PV → List PV → PH → KQ → Prop
  | .append, .ref a, [y], h, Q => ∃ xs, h[a]? = some (.lst xs) ∧ xs.length < SZ ∧ Q .non (h.set a (.lst (xs ++ [y])))
  | .extend, .ref a, [.ref b], h, Q => ∃ xs ys, h[a]? = some (.lst xs) ∧ h[b]? = some (.lst ys) ∧ xs.length + ys.length ≤ SZ ∧ Q .non (h.set a (.lst (xs ++ ys)))
  | .pop0, .ref a, [], h, Q => ∃ xs y, h[a]? = some (.lst xs) ∧ xs[xs.length - 1]? = some y ∧ Q y (h.set a (.lst xs.dropLast))
  | _, _, _, _, _ => False

/-! ### programs -/
structure FD where
  np : Nat
  ns : Nat
  body : B
  dfl : List PV := []
structure CD where
  init : Nat
  meths : List (Nat × Nat)
  fields : List Nat
structure Sig where
  fn : Nat → Option FD
  cls : Nat → Option CD
  con : Nat → Option PV
def getM (m : Nat) : List (Nat × Nat) → Option Nat
  | [] => none
  | (g, x) :: r => if g = m then some x else getM m r
inductive FR where
  | fn (f : Nat) | mk (c : Nat)
abbrev CS := FR → List PV → PH → KQ → KX → Prop

def iterL (live : PH → Prop) (body : PV → Loc → PH → (Loc → PH → Prop) → Prop) (fin : Loc → PH → Prop) : List PV → Loc → PH → Prop
  | [], l, h => live h ∧ fin l h
  | x :: r, l, h => live h ∧ body x l h fun l' h' => iterL live body fin r l' h'
def compL (live : PH → Prop) (d : Nat) (body : PV → PH → (Option PV → PH → Prop) → Prop) (fin : PH → Prop) : List PV → PH → Prop
  | [], h => live h ∧ fin h
  | x :: r, h => live h ∧ body x h fun o h' => match o with
    | none => compL live d body fin r h'
    | some y => ∃ acc, h'[d]? = some (.lst acc) ∧ acc.length < SZ ∧ compL live d body fin r (h'.set d (.lst (acc ++ [y])))
def whlN (step : Loc → PH → (Loc → PH → Prop) → Prop) : Nat → Loc → PH → Prop
  | 0, _, _ => False
  | n + 1, l, h => step l h fun l' h' => whlN step n l' h'
abbrev KI := List PV → (PH → Prop) → PH → Prop
def liveL (v : PV) (xs : List PV) : PH → Prop := fun h => match v with
  | .ref _ => lstOf h v = some xs
  | _ => True
def itemsOf (h : PH) : PV → Option (List PV)
  | .str s => some (s.cps.toList.map fun c => .str ⟨#[c]⟩)
  | v => seqOf h v
def enumFrom (n : Nat) : List PV → List PV
  | [] => []
  | x :: r => .tup [.int n, x] :: enumFrom (n + 1) r
def zipT : List PV → List PV → List PV
  | x :: xs, y :: ys => .tup [x, y] :: zipT xs ys
  | _, _ => []
def rangeL (lo : Int) (n : Nat) : List PV := (List.range n).map fun k => .int (lo + (k : Nat))

def lenTs : Ts → Nat
  | .nil => 0
  | .cons _ ts => lenTs ts + 1
structure En where
  nx : Loc → PH → Prop
  rt : KQ
  ct : Loc → PH → Prop
  ex : XV → Loc → PH → Prop

mutual
def evE (G : Sig) (cs : CS) (X : KX) : E → Loc → PH → KQ → Prop
  | .var i, l, h, Q => ∃ v, l[i]? = some (some v) ∧ Q v h
  | .int i, _, h, Q => Q (.int i) h
  | .str s, _, h, Q => Q (.str s) h
  | .bl b, _, h, Q => Q (.bl b) h
  | .non, _, h, Q => Q .non h
  | .glob g, _, h, Q => ∃ v, G.con g = some v ∧ Q v h
  | .bin o a b, l, h, Q => evE G cs X a l h fun x h1 => evE G cs X b l h1 fun y h2 => binV o x y h2 Q
  | .neg a, l, h, Q => evE G cs X a l h fun x h1 => ∃ i, x = .int i ∧ Q (.int (-i)) h1
  | .nt a, l, h, Q => evE G cs X a l h fun x h1 => ∃ b, x = .bl b ∧ Q (.bl (!b)) h1
  | .and a b, l, h, Q => evE G cs X a l h fun x h1 => ∃ c, x = .bl c ∧ if c = true then evE G cs X b l h1 Q else Q (.bl false) h1
  | .or a b, l, h, Q => evE G cs X a l h fun x h1 => ∃ c, x = .bl c ∧ if c = true then Q (.bl true) h1 else evE G cs X b l h1 Q
  | .cmp o a b, l, h, Q => evE G cs X a l h fun x h1 => evE G cs X b l h1 fun y h2 => cmpV o x y h2 fun r h3 => Q (.bl r) h3
  | .chain o o' a b c, l, h, Q => evE G cs X a l h fun x h1 => evE G cs X b l h1 fun y h2 => cmpV o x y h2 fun r h3 =>
      if r = true then evE G cs X c l h3 fun z h4 => cmpV o' y z h4 fun r' h5 => Q (.bl r') h5 else Q (.bl false) h3
  | .ite c a b, l, h, Q => evT G cs X c l h fun r h1 => if r = true then evE G cs X a l h1 Q else evE G cs X b l h1 Q
  | .tup es, l, h, Q => evEs G cs X es l h fun xs h1 => xs.length ≤ SZ ∧ Q (.tup xs) h1
  | .lst es, l, h, Q => evEs G cs X es l h fun xs h1 => xs.length ≤ SZ ∧ Q (.ref h1.length) (h1 ++ [.lst xs])
  | .dic0, _, h, Q => Q (.ref h.length) (h ++ [.dic []])
  | .idx a b, l, h, Q => evE G cs X a l h fun x h1 => evE G cs X b l h1 fun y h2 => idxV x y h2 Q
  | .slc a lo hi, l, h, Q => evE G cs X a l h fun x h1 => evO G cs X lo l h1 fun u h2 => evO G cs X hi l h2 fun w h3 => slcV x u w h3 Q
  | .attr a f, l, h, Q => evE G cs X a l h fun x h1 => ∃ p c fs v cd, x = .ref p ∧ h1[p]? = some (.ins c fs) ∧ G.cls c = some cd ∧ cd.fields.contains f = true ∧ getN f fs = some v ∧ Q v h1
  | .call f args, l, h, Q => evEs G cs X args l h fun xs h1 => cs (.fn f) xs h1 Q X
  | .mk c args, l, h, Q => evEs G cs X args l h fun xs h1 => cs (.mk c) xs h1 Q X
  | .meth o m args, l, h, Q => evE G cs X o l h fun x h1 => ∃ p c fs cd f, x = .ref p ∧ h1[p]? = some (.ins c fs) ∧ G.cls c = some cd ∧ getM m cd.meths = some f ∧
      evEs G cs X args l h1 fun xs h2 => cs (.fn f) (x :: xs) h2 Q X
  | .ini c args, l, h, Q => ∃ cd, G.cls c = some cd ∧ evEs G cs X args l h fun xs h1 => cs (.fn cd.init) xs h1 Q X
  | .isi f a, l, h, Q => evE G cs X a l h fun x h1 => ∃ t, tyN h1 x = some t ∧ Q (.bl (isB (tyOf f) t)) h1
  | .bf f args, l, h, Q => evEs G cs X args l h fun xs h1 => bfV f xs h1 Q
  | .bm m o args, l, h, Q => evE G cs X o l h fun x h1 => evEs G cs X args l h1 fun xs h2 => bmV m x xs h2 Q
  | .lc elt t it cond, l, h, Q => evI G cs X it l h fun items live h1 =>
      compL live h1.length (fun x h2 k => evG G cs (fun _ _ => False) t x l h2 fun l' h3 => evC G cs (fun _ _ => False) cond l' h3 fun b h4 =>
        if b = true then evE G cs (fun _ _ => False) elt l' h4 fun y h5 => k (some y) h5 else k none h4) (fun h2 => Q (.ref h1.length) h2) items (h1 ++ [.lst []])
def evEs (G : Sig) (cs : CS) (X : KX) : Es → Loc → PH → (List PV → PH → Prop) → Prop
  | .nil, _, h, Q => Q [] h
  | .cons e es, l, h, Q => evE G cs X e l h fun x h1 => evEs G cs X es l h1 fun xs h2 => Q (x :: xs) h2
def evO (G : Sig) (cs : CS) (X : KX) : OE → Loc → PH → (Option Int → PH → Prop) → Prop
  | .no, _, h, Q => Q none h
  | .so e, l, h, Q => evE G cs X e l h fun x h1 => ∃ i, x = .int i ∧ Q (some i) h1
def evC (G : Sig) (cs : CS) (X : KX) : OC → Loc → PH → (Bool → PH → Prop) → Prop
  | .no, _, h, Q => Q true h
  | .so c, l, h, Q => evT G cs X c l h Q
/-- a test -/
def evT (G : Sig) (cs : CS) (X : KX) : C → Loc → PH → (Bool → PH → Prop) → Prop
  | .v e, l, h, Q => evE G cs X e l h fun x h1 => ∃ b, truV h1 x = some b ∧ Q b h1
  | .cmp o a b, l, h, Q => evE G cs X a l h fun x h1 => evE G cs X b l h1 fun y h2 => cmpV o x y h2 Q
  | .chain o o' a b c, l, h, Q => evE G cs X a l h fun x h1 => evE G cs X b l h1 fun y h2 => cmpV o x y h2 fun r h3 =>
      if r = true then evE G cs X c l h3 fun z h4 => cmpV o' y z h4 Q else Q false h3
  | .nt a, l, h, Q => evT G cs X a l h fun b h1 => Q (!b) h1
  | .and a b, l, h, Q => evT G cs X a l h fun c h1 => if c = true then evT G cs X b l h1 Q else Q false h1
  | .or a b, l, h, Q => evT G cs X a l h fun c h1 => if c = true then Q true h1 else evT G cs X b l h1 Q
def evI (G : Sig) (cs : CS) (X : KX) : I → Loc → PH → KI → Prop
  | .seq e, l, h, R => evE G cs X e l h fun x h1 => ∃ xs, itemsOf h1 x = some xs ∧ R xs (liveL x xs) h1
  | .rng1 a, l, h, R => evE G cs X a l h fun x h1 => ∃ j, x = .int j ∧ (-(2 ^ 62) ≤ j ∧ j < 2 ^ 62) ∧ R (rangeL 0 j.toNat) (fun _ => True) h1
  | .rng2 a b, l, h, R => evE G cs X a l h fun x h1 => evE G cs X b l h1 fun y h2 => ∃ i j, x = .int i ∧ y = .int j ∧ (-(2 ^ 62) ≤ i ∧ i < 2 ^ 62 ∧ -(2 ^ 62) ≤ j ∧ j < 2 ^ 62) ∧ R (rangeL i (j - i).toNat) (fun _ => True) h2
  | .enu e, l, h, R => evE G cs X e l h fun x h1 => ∃ xs, lstOf h1 x = some xs ∧ R (enumFrom 0 xs) (liveL x xs) h1
  | .zip2 a b, l, h, R => evE G cs X a l h fun x h1 => evE G cs X b l h1 fun y h2 => ∃ xs ys, lstOf h2 x = some xs ∧ lstOf h2 y = some ys ∧ R (zipT xs ys) (fun h => liveL x xs h ∧ liveL y ys h) h2
  | .rev e, l, h, R => evE G cs X e l h fun x h1 => ∃ xs, lstOf h1 x = some xs ∧ R xs.reverse (liveL x xs) h1
/-- a target takes a value -/
def evG (G : Sig) (cs : CS) (X : KX) : T → PV → Loc → PH → (Loc → PH → Prop) → Prop
  | .nm i, v, l, h, Q => i < l.length ∧ Q (l.set i (some v)) h
  | .tup ts, v, l, h, Q => ∃ xs, v = .tup xs ∧ xs.length = lenTs ts ∧ evGs G cs X ts xs l h Q
  | .attr o f, v, l, h, Q => evE G cs X o l h fun x h1 => ∃ p c fs cd, x = .ref p ∧ h1[p]? = some (.ins c fs) ∧ G.cls c = some cd ∧ cd.fields.contains f = true ∧ Q l (h1.set p (.ins c (putN f v fs)))
  | .sub o i, v, l, h, Q => evE G cs X o l h fun x h1 => evE G cs X i l h1 fun y h2 => ∃ p k xs j, x = .ref p ∧ y = .int k ∧ h2[p]? = some (.lst xs) ∧ ixN xs.length k = some j ∧ Q l (h2.set p (.lst (xs.set j v)))
def evGs (G : Sig) (cs : CS) (X : KX) : Ts → List PV → Loc → PH → (Loc → PH → Prop) → Prop
  | .nil, vs, l, h, Q => vs = [] ∧ Q l h
  | .cons t ts, vs, l, h, Q => ∃ v r, vs = v :: r ∧ evG G cs X t v l h fun l' h' => evGs G cs X ts r l' h' Q
end
def augV : BO → PV → PV → PH → KQ → Prop
  | .add, .int i, .int j, h, Q => Q (.int (i + j)) h
  | .add, .str i, .str j, h, Q => i.length + j.length ≤ SZ ∧ Q (.str (i ++ j)) h
  | .sub, .int i, .int j, h, Q => Q (.int (i - j)) h
  | _, _, _, _, _ => False
mutual
def evS (G : Sig) (cs : CS) : S → Loc → PH → En → Prop
  | .asg t e, l, h, D => evE G cs (fun x h' => D.ex x l h') e l h fun v h1 => evG G cs (fun x h' => D.ex x l h') t v l h1 D.nx
  | .aug i o e, l, h, D => ∃ x, l[i]? = some (some x) ∧ evE G cs (fun x h' => D.ex x l h') e l h fun y h1 => augV o x y h1 fun z h2 => D.nx (l.set i (some z)) h2
  | .augF ob f o e, l, h, D => evE G cs (fun x h' => D.ex x l h') ob l h fun x h1 => ∃ p c fs v cd, x = .ref p ∧ h1[p]? = some (.ins c fs) ∧ G.cls c = some cd ∧ cd.fields.contains f = true ∧ getN f fs = some v ∧
      evE G cs (fun x h' => D.ex x l h') e l h1 fun y h2 => augV o v y h2 fun z h3 => ∃ fs', h3[p]? = some (.ins c fs') ∧ D.nx l (h3.set p (.ins c (putN f z fs')))
  | .augS ob ix o e, l, h, D => evE G cs (fun x h' => D.ex x l h') ob l h fun x h1 => evE G cs (fun x h' => D.ex x l h') ix l h1 fun y h2 => ∃ p k xs v, x = .ref p ∧ y = .int k ∧ h2[p]? = some (.lst xs) ∧ atI xs k = some v ∧
      evE G cs (fun x h' => D.ex x l h') e l h2 fun u h3 => augV o v u h3 fun z h4 => ∃ ys j, h4[p]? = some (.lst ys) ∧ ixN ys.length k = some j ∧ D.nx l (h4.set p (.lst (ys.set j z)))
  | .exp e, l, h, D => evE G cs (fun x h' => D.ex x l h') e l h fun _ h1 => D.nx l h1
  | .ret e, l, h, D => evE G cs (fun x h' => D.ex x l h') e l h D.rt
  | .retN, _, h, D => D.rt .non h
  | .ife c a b, l, h, D => evT G cs (fun x h' => D.ex x l h') c l h fun r h1 => if r = true then evB G cs a l h1 D else evB G cs b l h1 D
  | .for t it b, l, h, D => evI G cs (fun x h' => D.ex x l h') it l h fun items live h1 =>
      iterL live (fun v l' h' k => evG G cs (fun x h' => D.ex x l' h') t v l' h' fun l2 h2 => evB G cs b l2 h2 { D with nx := k, ct := k }) D.nx items l h1
  | .whl c b, l, h, D => ∃ n, whlN (fun l' h' k => evT G cs (fun x h' => D.ex x l' h') c l' h' fun r h1 => if r = true then evB G cs b l' h1 { D with nx := k, ct := k } else D.nx l' h1) n l h
  | .pas, l, h, D => D.nx l h
  | .cont, l, h, D => D.ct l h
  | .rais _ _, _, _, _ => False
def evB (G : Sig) (cs : CS) : B → Loc → PH → En → Prop
  | .nil, l, h, D => D.nx l h
  | .cons s b, l, h, D => evS G cs s l h { D with nx := fun l' h' => evB G cs b l' h' D }
end
def fill (dfl args : List PV) (n : Nat) : List PV := args ++ dfl.drop (dfl.length - (n - args.length))
def startL (d : FD) (vs : List PV) : Loc := vs.map some ++ List.replicate (d.ns - vs.length) none
/-- the calls, to a depth -/
def callS (G : Sig) : Nat → CS
  | 0, _, _, _, _, _ => False
  | k + 1, .fn f, args, h, Q, X => ∃ d, G.fn f = some d ∧ (fill d.dfl args d.np).length = d.np ∧ args.length ≤ d.np ∧
      evB G (callS G k) d.body (startL d (fill d.dfl args d.np)) h ⟨fun _ h' => Q .non h', Q, fun _ _ => False, fun x _ h' => X x h'⟩
  | k + 1, .mk c, args, h, Q, X => ∃ cd, G.cls c = some cd ∧ callS G k (.fn cd.init) (.ref h.length :: args) (h ++ [.ins c []]) (fun v h' => v = .non ∧ Q (.ref h.length) h') X

/-! ### monotonicity -/
def CSm (cs : CS) : Prop := ∀ f xs h (Q Q' : KQ) (X X' : KX), (∀ v h, Q v h → Q' v h) → (∀ v h, X v h → X' v h) → cs f xs h Q X → cs f xs h Q' X'
theorem binV_mono : ∀ {o : BO} {x y : PV} {h : PH} {Q Q' : KQ}, (∀ v h, Q v h → Q' v h) → binV o x y h Q → binV o x y h Q' := by
  intro o x y h Q Q' k q
  unfold binV at q ⊢
  split at q
  · exact k _ _ q
  · exact ⟨q.1, k _ _ q.2⟩
  · exact ⟨q.1, k _ _ q.2⟩
  · obtain ⟨xs, ys, a, b, c, q⟩ := q; exact ⟨xs, ys, a, b, c, k _ _ q⟩
  · exact k _ _ q
  · exact ⟨q.1, k _ _ q.2⟩
  · obtain ⟨xs, a, b, c, d, q⟩ := q; exact ⟨xs, a, b, c, d, k _ _ q⟩
  · exact ⟨q.1, q.2.1, k _ _ q.2.2⟩
  · exact ⟨q.1, k _ _ q.2⟩
  · exact ⟨q.1, k _ _ q.2⟩
  · exact q.elim
theorem augV_mono : ∀ {o : BO} {x y : PV} {h : PH} {Q Q' : KQ}, (∀ v h, Q v h → Q' v h) → augV o x y h Q → augV o x y h Q' := by
  intro o x y h Q Q' k q
  unfold augV at q ⊢
  split at q
  · exact k _ _ q
  · exact ⟨q.1, k _ _ q.2⟩
  · exact k _ _ q
  · exact q.elim
theorem cmpV_mono : ∀ {o : CO} {x y : PV} {h : PH} {Q Q' : Bool → PH → Prop}, (∀ v h, Q v h → Q' v h) → cmpV o x y h Q → cmpV o x y h Q' := by
  intro o x y h Q Q' k q
  unfold cmpV at q ⊢
  split at q
  · obtain ⟨d, e, a, b, c, c', q⟩ := q; exact ⟨d, e, a, b, c, c', k _ _ q⟩
  · obtain ⟨d, e, a, b, c, c', q⟩ := q; exact ⟨d, e, a, b, c, c', k _ _ q⟩
  all_goals first | exact k _ _ q | exact q.elim
theorem idxV_mono : ∀ {x y : PV} {h : PH} {Q Q' : KQ}, (∀ v h, Q v h → Q' v h) → idxV x y h Q → idxV x y h Q' := by
  intro x y h Q Q' k q
  unfold idxV at q ⊢
  split at q
  · obtain ⟨v, a, q⟩ := q; exact ⟨v, a, k _ _ q⟩
  · obtain ⟨z, c, a, q⟩ := q; exact ⟨z, c, a, k _ _ q⟩
  · obtain ⟨xs, v, a, b, q⟩ := q; exact ⟨xs, v, a, b, k _ _ q⟩
  · exact q.elim
theorem slcV_mono : ∀ {x : PV} {u w : Option Int} {h : PH} {Q Q' : KQ}, (∀ v h, Q v h → Q' v h) → slcV x u w h Q → slcV x u w h Q' := by
  intro x u w h Q Q' k q
  unfold slcV at q ⊢
  split at q
  · exact k _ _ q
  · obtain ⟨xs, a, q⟩ := q; exact ⟨xs, a, k _ _ q⟩
  · exact q.elim
theorem bfV_mono : ∀ {f : BF} {xs : List PV} {h : PH} {Q Q' : KQ}, (∀ v h, Q v h → Q' v h) → bfV f xs h Q → bfV f xs h Q' := by
  intro f xs h Q Q' k q
  unfold bfV at q ⊢
  split at q
  all_goals first | exact k _ _ q | exact q.elim | exact ⟨q.1, k _ _ q.2⟩ | (obtain ⟨z, a, q⟩ := q; exact ⟨z, a, k _ _ q⟩)
theorem bmV_mono : ∀ {f : BM} {x : PV} {xs : List PV} {h : PH} {Q Q' : KQ}, (∀ v h, Q v h → Q' v h) → bmV f x xs h Q → bmV f x xs h Q' := by
  intro f x xs h Q Q' k q
  unfold bmV at q ⊢
  split at q
  all_goals first | exact q.elim | (obtain ⟨z, a, b, q⟩ := q; exact ⟨z, a, b, k _ _ q⟩) | (obtain ⟨z, y, a, b, c, q⟩ := q; exact ⟨z, y, a, b, c, k _ _ q⟩) | (obtain ⟨z, y, a, b, q⟩ := q; exact ⟨z, y, a, b, k _ _ q⟩)
theorem iterL_mono {live : PH → Prop} {body body' : PV → Loc → PH → (Loc → PH → Prop) → Prop} {fin fin' : Loc → PH → Prop}
    (hb : ∀ x l h (Q Q' : Loc → PH → Prop), (∀ l h, Q l h → Q' l h) → body x l h Q → body' x l h Q') (hf : ∀ l h, fin l h → fin' l h) :
    ∀ (xs : List PV) (l : Loc) (h : PH), iterL live body fin xs l h → iterL live body' fin' xs l h
  | [], l, h, q => ⟨q.1, hf _ _ q.2⟩
  | x :: r, l, h, q => ⟨q.1, hb _ _ _ _ _ (fun l' h' q' => iterL_mono hb hf r l' h' q') q.2⟩
theorem compL_mono {live : PH → Prop} {d : Nat} {body body' : PV → PH → (Option PV → PH → Prop) → Prop} {fin fin' : PH → Prop}
    (hb : ∀ x h (Q Q' : Option PV → PH → Prop), (∀ l h, Q l h → Q' l h) → body x h Q → body' x h Q') (hf : ∀ h, fin h → fin' h) :
    ∀ (xs : List PV) (h : PH), compL live d body fin xs h → compL live d body' fin' xs h
  | [], h, q => ⟨q.1, hf _ q.2⟩
  | x :: r, h, q => ⟨q.1, hb _ _ _ _ (fun o h' q' => by
      cases o with
      | none => exact compL_mono hb hf r h' q'
      | some y =>
        obtain ⟨acc, a, b, q'⟩ := q'
        exact ⟨acc, a, b, compL_mono hb hf r _ q'⟩) q.2⟩
theorem whlN_mono {step step' : Loc → PH → (Loc → PH → Prop) → Prop} (hb : ∀ l h (Q Q' : Loc → PH → Prop), (∀ l h, Q l h → Q' l h) → step l h Q → step' l h Q') :
    ∀ (n : Nat) (l : Loc) (h : PH), whlN step n l h → whlN step' n l h
  | 0, _, _, q => q
  | n + 1, l, h, q => hb _ _ _ _ (fun l' h' q' => whlN_mono hb n l' h' q') q
section
variable {G : Sig} {cs cs' : CS}
/-- one call's reading below another -/
def CSle (cs cs' : CS) : Prop := ∀ f xs h (Q Q' : KQ) (X X' : KX), (∀ v h, Q v h → Q' v h) → (∀ v h, X v h → X' v h) → cs f xs h Q X → cs' f xs h Q' X'
mutual
theorem evE_mono (hc : CSle cs cs') {X X' : KX} (hX : ∀ v h, X v h → X' v h) : ∀ (e : E) (l : Loc) (h : PH) (Q Q' : KQ), (∀ v h, Q v h → Q' v h) → evE G cs X e l h Q → evE G cs' X' e l h Q'
  | .var i, l, h, Q, Q', k, q => by obtain ⟨v, a, q⟩ := q; exact ⟨v, a, k _ _ q⟩
  | .int i, _, h, Q, Q', k, q => k _ _ q
  | .str s, _, h, Q, Q', k, q => k _ _ q
  | .bl b, _, h, Q, Q', k, q => k _ _ q
  | .non, _, h, Q, Q', k, q => k _ _ q
  | .glob g, _, h, Q, Q', k, q => by obtain ⟨v, a, q⟩ := q; exact ⟨v, a, k _ _ q⟩
  | .bin o a b, l, h, Q, Q', k, q => evE_mono hc hX a _ _ _ _ (fun _ _ q => evE_mono hc hX b _ _ _ _ (fun _ _ q => binV_mono k q) q) q
  | .neg a, l, h, Q, Q', k, q => evE_mono hc hX a _ _ _ _ (fun _ _ q => by obtain ⟨i, e, q⟩ := q; exact ⟨i, e, k _ _ q⟩) q
  | .nt a, l, h, Q, Q', k, q => evE_mono hc hX a _ _ _ _ (fun _ _ q => by obtain ⟨i, e, q⟩ := q; exact ⟨i, e, k _ _ q⟩) q
  | .and a b, l, h, Q, Q', k, q => evE_mono hc hX a _ _ _ _ (fun _ _ q => by
      obtain ⟨i, e, q⟩ := q
      refine ⟨i, e, ?_⟩
      cases i with
      | true => exact evE_mono hc hX b _ _ _ _ k q
      | false => exact k _ _ q) q
  | .or a b, l, h, Q, Q', k, q => evE_mono hc hX a _ _ _ _ (fun _ _ q => by
      obtain ⟨i, e, q⟩ := q
      refine ⟨i, e, ?_⟩
      cases i with
      | false => exact evE_mono hc hX b _ _ _ _ k q
      | true => exact k _ _ q) q
  | .cmp o a b, l, h, Q, Q', k, q => evE_mono hc hX a _ _ _ _ (fun _ _ q => evE_mono hc hX b _ _ _ _ (fun _ _ q => cmpV_mono (fun _ _ q => k _ _ q) q) q) q
  | .chain o o' a b c, l, h, Q, Q', k, q => evE_mono hc hX a _ _ _ _ (fun _ _ q => evE_mono hc hX b _ _ _ _ (fun _ _ q => cmpV_mono (fun r _ q => by
      cases r with
      | true => exact evE_mono hc hX c _ _ _ _ (fun _ _ q => cmpV_mono (fun _ _ q => k _ _ q) q) q
      | false => exact k _ _ q) q) q) q
  | .ite c a b, l, h, Q, Q', k, q => evT_mono hc hX c _ _ _ _ (fun r _ q => by
      cases r with
      | true => exact evE_mono hc hX a _ _ _ _ k q
      | false => exact evE_mono hc hX b _ _ _ _ k q) q
  | .tup es, l, h, Q, Q', k, q => evEs_mono hc hX es _ _ _ _ (fun _ _ q => ⟨q.1, k _ _ q.2⟩) q
  | .lst es, l, h, Q, Q', k, q => evEs_mono hc hX es _ _ _ _ (fun _ _ q => ⟨q.1, k _ _ q.2⟩) q
  | .dic0, _, h, Q, Q', k, q => k _ _ q
  | .idx a b, l, h, Q, Q', k, q => evE_mono hc hX a _ _ _ _ (fun _ _ q => evE_mono hc hX b _ _ _ _ (fun _ _ q => idxV_mono k q) q) q
  | .slc a lo hi, l, h, Q, Q', k, q => evE_mono hc hX a _ _ _ _ (fun _ _ q => evO_mono hc hX lo _ _ _ _ (fun _ _ q => evO_mono hc hX hi _ _ _ _ (fun _ _ q => slcV_mono k q) q) q) q
  | .attr a f, l, h, Q, Q', k, q => evE_mono hc hX a _ _ _ _ (fun _ _ q => by obtain ⟨p, c, fs, v, cd, a, b, c', d, e, q⟩ := q; exact ⟨p, c, fs, v, cd, a, b, c', d, e, k _ _ q⟩) q
  | .call f args, l, h, Q, Q', k, q => evEs_mono hc hX args _ _ _ _ (fun _ _ q => hc _ _ _ _ _ _ _ k hX q) q
  | .mk c args, l, h, Q, Q', k, q => evEs_mono hc hX args _ _ _ _ (fun _ _ q => hc _ _ _ _ _ _ _ k hX q) q
  | .meth o m args, l, h, Q, Q', k, q => evE_mono hc hX o _ _ _ _ (fun _ _ q => by
      obtain ⟨p, c, fs, cd, f, a, b, c', d, q⟩ := q
      exact ⟨p, c, fs, cd, f, a, b, c', d, evEs_mono hc hX args _ _ _ _ (fun _ _ q => hc _ _ _ _ _ _ _ k hX q) q⟩) q
  | .ini c args, l, h, Q, Q', k, q => by
      obtain ⟨cd, a, q⟩ := q
      exact ⟨cd, a, evEs_mono hc hX args _ _ _ _ (fun _ _ q => hc _ _ _ _ _ _ _ k hX q) q⟩
  | .isi f a, l, h, Q, Q', k, q => evE_mono hc hX a _ _ _ _ (fun _ _ q => by obtain ⟨i, e, q⟩ := q; exact ⟨i, e, k _ _ q⟩) q
  | .bf f args, l, h, Q, Q', k, q => evEs_mono hc hX args _ _ _ _ (fun _ _ q => bfV_mono k q) q
  | .bm m o args, l, h, Q, Q', k, q => evE_mono hc hX o _ _ _ _ (fun _ _ q => evEs_mono hc hX args _ _ _ _ (fun _ _ q => bmV_mono k q) q) q
  | .lc elt t it cond, l, h, Q, Q', k, q => evI_mono hc hX it _ _ _ _ (fun items live h1 q => compL_mono (fun x h2 R R' kR q => evG_mono hc (fun _ _ z => z) t _ _ _ _ _ (fun l' h3 q => evC_mono hc (fun _ _ z => z) cond _ _ _ _ (fun b h4 q => by
      cases b with
      | true => exact evE_mono hc (fun _ _ z => z) elt _ _ _ _ (fun y h5 q => kR _ _ q) q
      | false => exact kR _ _ q) q) q) (fun h2 q => k _ _ q) _ _ q) q
theorem evEs_mono (hc : CSle cs cs') {X X' : KX} (hX : ∀ v h, X v h → X' v h) : ∀ (e : Es) (l : Loc) (h : PH) (Q Q' : List PV → PH → Prop), (∀ v h, Q v h → Q' v h) → evEs G cs X e l h Q → evEs G cs' X' e l h Q'
  | .nil, _, h, Q, Q', k, q => k _ _ q
  | .cons e es, l, h, Q, Q', k, q => evE_mono hc hX e _ _ _ _ (fun _ _ q => evEs_mono hc hX es _ _ _ _ (fun _ _ q => k _ _ q) q) q
theorem evO_mono (hc : CSle cs cs') {X X' : KX} (hX : ∀ v h, X v h → X' v h) : ∀ (e : OE) (l : Loc) (h : PH) (Q Q' : Option Int → PH → Prop), (∀ v h, Q v h → Q' v h) → evO G cs X e l h Q → evO G cs' X' e l h Q'
  | .no, _, h, Q, Q', k, q => k _ _ q
  | .so e, l, h, Q, Q', k, q => evE_mono hc hX e _ _ _ _ (fun _ _ q => by obtain ⟨i, e, q⟩ := q; exact ⟨i, e, k _ _ q⟩) q
theorem evC_mono (hc : CSle cs cs') {X X' : KX} (hX : ∀ v h, X v h → X' v h) : ∀ (e : OC) (l : Loc) (h : PH) (Q Q' : Bool → PH → Prop), (∀ v h, Q v h → Q' v h) → evC G cs X e l h Q → evC G cs' X' e l h Q'
  | .no, _, h, Q, Q', k, q => k _ _ q
  | .so e, l, h, Q, Q', k, q => evT_mono hc hX e _ _ _ _ k q
theorem evT_mono (hc : CSle cs cs') {X X' : KX} (hX : ∀ v h, X v h → X' v h) : ∀ (e : C) (l : Loc) (h : PH) (Q Q' : Bool → PH → Prop), (∀ v h, Q v h → Q' v h) → evT G cs X e l h Q → evT G cs' X' e l h Q'
  | .v e, l, h, Q, Q', k, q => evE_mono hc hX e _ _ _ _ (fun _ _ q => by obtain ⟨i, e, q⟩ := q; exact ⟨i, e, k _ _ q⟩) q
  | .cmp o a b, l, h, Q, Q', k, q => evE_mono hc hX a _ _ _ _ (fun _ _ q => evE_mono hc hX b _ _ _ _ (fun _ _ q => cmpV_mono k q) q) q
  | .chain o o' a b c, l, h, Q, Q', k, q => evE_mono hc hX a _ _ _ _ (fun _ _ q => evE_mono hc hX b _ _ _ _ (fun _ _ q => cmpV_mono (fun r _ q => by
      cases r with
      | true => exact evE_mono hc hX c _ _ _ _ (fun _ _ q => cmpV_mono k q) q
      | false => exact k _ _ q) q) q) q
  | .nt a, l, h, Q, Q', k, q => evT_mono hc hX a _ _ _ _ (fun _ _ q => k _ _ q) q
  | .and a b, l, h, Q, Q', k, q => evT_mono hc hX a _ _ _ _ (fun c _ q => by
      cases c with
      | true => exact evT_mono hc hX b _ _ _ _ k q
      | false => exact k _ _ q) q
  | .or a b, l, h, Q, Q', k, q => evT_mono hc hX a _ _ _ _ (fun c _ q => by
      cases c with
      | false => exact evT_mono hc hX b _ _ _ _ k q
      | true => exact k _ _ q) q
theorem evI_mono (hc : CSle cs cs') {X X' : KX} (hX : ∀ v h, X v h → X' v h) : ∀ (e : I) (l : Loc) (h : PH) (Q Q' : KI), (∀ a b c, Q a b c → Q' a b c) → evI G cs X e l h Q → evI G cs' X' e l h Q'
  | .seq e, l, h, Q, Q', k, q => evE_mono hc hX e _ _ _ _ (fun _ _ q => by obtain ⟨i, e, q⟩ := q; exact ⟨i, e, k _ _ _ q⟩) q
  | .rng1 e, l, h, Q, Q', k, q => evE_mono hc hX e _ _ _ _ (fun _ _ q => by obtain ⟨i, e, f, q⟩ := q; exact ⟨i, e, f, k _ _ _ q⟩) q
  | .rng2 a b, l, h, Q, Q', k, q => evE_mono hc hX a _ _ _ _ (fun _ _ q => evE_mono hc hX b _ _ _ _ (fun _ _ q => by obtain ⟨i, j, e, f, g, q⟩ := q; exact ⟨i, j, e, f, g, k _ _ _ q⟩) q) q
  | .enu e, l, h, Q, Q', k, q => evE_mono hc hX e _ _ _ _ (fun _ _ q => by obtain ⟨i, e, q⟩ := q; exact ⟨i, e, k _ _ _ q⟩) q
  | .zip2 a b, l, h, Q, Q', k, q => evE_mono hc hX a _ _ _ _ (fun _ _ q => evE_mono hc hX b _ _ _ _ (fun _ _ q => by obtain ⟨i, j, e, f, q⟩ := q; exact ⟨i, j, e, f, k _ _ _ q⟩) q) q
  | .rev e, l, h, Q, Q', k, q => evE_mono hc hX e _ _ _ _ (fun _ _ q => by obtain ⟨i, e, q⟩ := q; exact ⟨i, e, k _ _ _ q⟩) q
theorem evG_mono (hc : CSle cs cs') {X X' : KX} (hX : ∀ v h, X v h → X' v h) : ∀ (t : T) (v : PV) (l : Loc) (h : PH) (Q Q' : Loc → PH → Prop), (∀ a b, Q a b → Q' a b) → evG G cs X t v l h Q → evG G cs' X' t v l h Q'
  | .nm i, v, l, h, Q, Q', k, q => ⟨q.1, k _ _ q.2⟩
  | .tup ts, v, l, h, Q, Q', k, q => by obtain ⟨xs, e, e2, q⟩ := q; exact ⟨xs, e, e2, evGs_mono hc hX ts _ _ _ _ _ k q⟩
  | .attr o f, v, l, h, Q, Q', k, q => evE_mono hc hX o _ _ _ _ (fun _ _ q => by obtain ⟨p, c, fs, cd, a, b, c', d, q⟩ := q; exact ⟨p, c, fs, cd, a, b, c', d, k _ _ q⟩) q
  | .sub o i, v, l, h, Q, Q', k, q => evE_mono hc hX o _ _ _ _ (fun _ _ q => evE_mono hc hX i _ _ _ _ (fun _ _ q => by obtain ⟨p, c, fs, cd, a, b, c', d, q⟩ := q; exact ⟨p, c, fs, cd, a, b, c', d, k _ _ q⟩) q) q
theorem evGs_mono (hc : CSle cs cs') {X X' : KX} (hX : ∀ v h, X v h → X' v h) : ∀ (t : Ts) (v : List PV) (l : Loc) (h : PH) (Q Q' : Loc → PH → Prop), (∀ a b, Q a b → Q' a b) → evGs G cs X t v l h Q → evGs G cs' X' t v l h Q'
  | .nil, v, l, h, Q, Q', k, q => ⟨q.1, k _ _ q.2⟩
  | .cons t ts, v, l, h, Q, Q', k, q => by
      obtain ⟨y, r, e, q⟩ := q
      exact ⟨y, r, e, evG_mono hc hX t _ _ _ _ _ (fun _ _ q => evGs_mono hc hX ts _ _ _ _ _ k q) q⟩
end
/-- an end below another -/
structure Enle (D D' : En) : Prop where
  nx : ∀ l h, D.nx l h → D'.nx l h
  rt : ∀ l h, D.rt l h → D'.rt l h
  ct : ∀ l h, D.ct l h → D'.ct l h
  ex : ∀ x l h, D.ex x l h → D'.ex x l h
mutual
theorem evS_mono (hc : CSle cs cs') : ∀ (s : S) (l : Loc) (h : PH) (D D' : En), Enle D D' → evS G cs s l h D → evS G cs' s l h D'
  | .asg t e, l, h, D, D', k, q => evE_mono hc (fun _ _ z => k.ex _ _ _ z) e _ _ _ _ (fun _ _ q => evG_mono hc (fun _ _ z => k.ex _ _ _ z) t _ _ _ _ _ k.nx q) q
  | .aug i o e, l, h, D, D', k, q => by
      obtain ⟨x, a, q⟩ := q
      exact ⟨x, a, evE_mono hc (fun _ _ z => k.ex _ _ _ z) e _ _ _ _ (fun _ _ q => augV_mono (fun _ _ q => k.nx _ _ q) q) q⟩
  | .augF ob f o e, l, h, D, D', k, q => evE_mono hc (fun _ _ z => k.ex _ _ _ z) ob _ _ _ _ (fun _ _ q => by
      obtain ⟨p, c, fs, v, cd, a1, a2, a3, a4, a5, q⟩ := q
      exact ⟨p, c, fs, v, cd, a1, a2, a3, a4, a5, evE_mono hc (fun _ _ z => k.ex _ _ _ z) e _ _ _ _ (fun _ _ q => augV_mono (fun _ _ q => by obtain ⟨fs', b1, q⟩ := q; exact ⟨fs', b1, k.nx _ _ q⟩) q) q⟩) q
  | .augS ob ix o e, l, h, D, D', k, q => evE_mono hc (fun _ _ z => k.ex _ _ _ z) ob _ _ _ _ (fun _ _ q => evE_mono hc (fun _ _ z => k.ex _ _ _ z) ix _ _ _ _ (fun _ _ q => by
      obtain ⟨p, c, fs, v, a1, a2, a3, a4, q⟩ := q
      exact ⟨p, c, fs, v, a1, a2, a3, a4, evE_mono hc (fun _ _ z => k.ex _ _ _ z) e _ _ _ _ (fun _ _ q => augV_mono (fun _ _ q => by obtain ⟨ys, j, b1, b2, q⟩ := q; exact ⟨ys, j, b1, b2, k.nx _ _ q⟩) q) q⟩) q) q
  | .exp e, l, h, D, D', k, q => evE_mono hc (fun _ _ z => k.ex _ _ _ z) e _ _ _ _ (fun _ _ q => k.nx _ _ q) q
  | .ret e, l, h, D, D', k, q => evE_mono hc (fun _ _ z => k.ex _ _ _ z) e _ _ _ _ k.rt q
  | .retN, l, h, D, D', k, q => k.rt _ _ q
  | .ife c a b, l, h, D, D', k, q => evT_mono hc (fun _ _ z => k.ex _ _ _ z) c _ _ _ _ (fun r _ q => by
      cases r with
      | true => exact evB_mono hc a _ _ _ _ k q
      | false => exact evB_mono hc b _ _ _ _ k q) q
  | .for t it b, l, h, D, D', k, q => evI_mono hc (fun _ _ z => k.ex _ _ _ z) it _ _ _ _ (fun items live h1 q => iterL_mono (fun x l' h' R R' kR q =>
      evG_mono hc (fun _ _ z => k.ex _ _ _ z) t _ _ _ _ _ (fun l2 h2 q => evB_mono hc b _ _ { D with nx := R, ct := R } { D' with nx := R', ct := R' } ⟨kR, k.rt, kR, k.ex⟩ q) q) k.nx _ _ _ q) q
  | .whl c b, l, h, D, D', k, q => by
      obtain ⟨n, q⟩ := q
      exact ⟨n, whlN_mono (fun l' h' R R' kR q => evT_mono hc (fun _ _ z => k.ex _ _ _ z) c _ _ _ _ (fun r _ q => by
        cases r with
        | true => exact evB_mono hc b _ _ { D with nx := R, ct := R } { D' with nx := R', ct := R' } ⟨kR, k.rt, kR, k.ex⟩ q
        | false => exact k.nx _ _ q) q) n _ _ q⟩
  | .pas, l, h, D, D', k, q => k.nx _ _ q
  | .cont, l, h, D, D', k, q => k.ct _ _ q
  | .rais c a, l, h, D, D', k, q => q
theorem evB_mono (hc : CSle cs cs') : ∀ (b : B) (l : Loc) (h : PH) (D D' : En), Enle D D' → evB G cs b l h D → evB G cs' b l h D'
  | .nil, l, h, D, D', k, q => k.nx _ _ q
  | .cons s b, l, h, D, D', k, q => evS_mono hc s _ _ { D with nx := fun l' h' => evB G cs b l' h' D } { D' with nx := fun l' h' => evB G cs' b l' h' D' } ⟨fun _ _ q => evB_mono hc b _ _ _ _ k q, k.rt, k.ct, k.ex⟩ q
end
theorem callS_le : ∀ (j k : Nat), j ≤ k → CSle (callS G j) (callS G k)
  | 0, _, _ => fun f xs h Q Q' X X' hQ hX q => q.elim
  | j + 1, 0, hj => absurd hj (Nat.not_succ_le_zero j)
  | j + 1, k + 1, hj => fun f xs h Q Q' X X' hQ hX q => by
      have ih := callS_le j k (Nat.le_of_succ_le_succ hj)
      cases f with
      | fn f =>
        obtain ⟨d, a, b, c, q⟩ := q
        exact ⟨d, a, b, c, evB_mono ih d.body _ _ ⟨fun _ h' => Q .non h', Q, fun _ _ => False, fun x _ h' => X x h'⟩ ⟨fun _ h' => Q' .non h', Q', fun _ _ => False, fun x _ h' => X' x h'⟩ ⟨fun _ _ q => hQ _ _ q, hQ, fun _ _ q => q, fun _ _ _ q => hX _ _ q⟩ q⟩
      | mk c =>
        obtain ⟨cd, a, q⟩ := q
        exact ⟨cd, a, ih _ _ _ _ _ _ _ (fun _ _ q => ⟨q.1, hQ _ _ q.2⟩) hX q⟩
theorem callS_mono {k : Nat} {f : FR} {xs : List PV} {h : PH} {Q Q' : KQ} {X X' : KX} (hQ : ∀ v h, Q v h → Q' v h) (hX : ∀ v h, X v h → X' v h) (q : callS G k f xs h Q X) : callS G k f xs h Q' X' :=
  callS_le k k (Nat.le_refl k) _ _ _ _ _ _ _ hQ hX q
end
end Py

set_option Elab.async false
set_option linter.all false
set_option maxRecDepth 100000
set_option maxHeartbeats 4000000
/-! PySound: the reading of PyDen is sound for the hand layer. -/
namespace Py
open PySem PySem.Spec PyProof.Rows L2

/-! ### how abstract values and heaps stand for the layer's -/
mutual
def RV (K : PySem.W.Frag) (H : Hp) (m : List Addr) : PV → V → Prop
  | .non, v => v = .non
  | .bl b, v => v = .bl b
  | .int i, v => v = .int i
  | .str s, v => v = .str s
  | .ref a, v => ∃ p, m[a]? = some p ∧ v = .ref p
  | .tup xs, v => ∃ p vs, v = .ref p ∧ SqT K H p vs ∧ RVs K H m xs vs
def RVs (K : PySem.W.Frag) (H : Hp) (m : List Addr) : List PV → List V → Prop
  | [], vs => vs = []
  | x :: xs, vs => ∃ v r, vs = v :: r ∧ RV K H m x v ∧ RVs K H m xs r
end
/-- a key -/
def keyV : PV → Option Key
  | .int i => some (.inl i)
  | .str s => some (.inr s)
  | _ => none
def RKs (K : PySem.W.Frag) (H : Hp) (m : List Addr) : List (PV × PV) → List (Key × V) → Prop
  | [], vs => vs = []
  | (x, y) :: xs, vs => ∃ k v r, vs = (k, v) :: r ∧ keyV x = some k ∧ RV K H m y v ∧ RKs K H m xs r
def optR (K : PySem.W.Frag) (H : Hp) (m : List Addr) : Option PV → Option V → Prop
  | some x, some v => RV K H m x v
  | none, none => True
  | _, _ => False
/-- a list of the written part -/
def KL (K : PySem.W.Frag) (a : Addr) (xs : List V) : Prop := ∃ (o : Obj) (its : Array Value) (n : Nat), K.lookup a = some o ∧ o.cls = .type "list" ∧ o.dict = none ∧ o.data = .seq its n ∧ its.size ≤ sizeLine ∧ Vals xs its.toList
/-- what is known of the module: names, class addresses -/
structure Me where
  nm : Nat → Str
  gf : Nat → Bool
  G : Sig
structure Mo extends Me where
  K : PySem.W.Frag
  ca : Nat → Addr
  fa : Nat → Addr
def RO (M : Mo) (H : Hp) (m : List Addr) : PO → Addr → Prop
  | .lst xs, p => ∃ vs, H p = some (.lst vs) ∧ RVs M.K H m xs vs
  | .frl xs, p => ∃ vs, ((∃ o, H p = some (.frz o (.lst vs))) ∨ KL M.K p vs) ∧ RVs M.K H m xs vs
  | .dic kvs, p => ∃ ks, H p = some (.dK ks) ∧ RKs M.K H m kvs ks
  | .ins c fs, p => ∃ dx gs cd, H p = some (.ins (M.ca c) dx gs) ∧ M.G.cls c = some cd ∧ (∀ f, cd.fields.contains f = true → optR M.K H m (getN f fs) (gs.lookup (M.nm f))) ∧
      (gs.map (·.1)).Nodup ∧ ∀ s ∈ gs.map (·.1), s ∈ cd.fields.map M.nm
def isFrl : PO → Bool
  | .frl _ => true
  | _ => false
structure RH (M : Mo) (H : Hp) (m : List Addr) (h : PH) : Prop where
  len : m.length = h.length
  obj : ∀ (a : Nat) (o : PO) (p : Addr), h[a]? = some o → m[a]? = some p → RO M H m o p
  inj : ∀ (a b : Nat) (p : Addr) (o u : PO), m[a]? = some p → m[b]? = some p → h[a]? = some o → h[b]? = some u → isFrl o = false → isFrl u = false → a = b
def RL (K : PySem.W.Frag) (H : Hp) (m : List Addr) (l : Loc) (σ : L2.St) : Prop := l.length = σ.length ∧ ∀ (i : Nat) (v : PV), l[i]? = some (some v) → ∃ w, σ[i]? = some (some w) ∧ RV K H m v w
/-- tuples stay -/
def Kp (K : PySem.W.Frag) (H H' : Hp) : Prop := ∀ p vs, SqT K H p vs → SqT K H' p vs
def Ex (m m' : List Addr) : Prop := ∀ (a : Nat) (p : Addr), m[a]? = some p → m'[a]? = some p
theorem Kp.refl (K : PySem.W.Frag) (H : Hp) : Kp K H H := fun _ _ h => h
theorem Kp.trans {K : PySem.W.Frag} {H H1 H2 : Hp} (a : Kp K H H1) (b : Kp K H1 H2) : Kp K H H2 := fun _ _ h => b _ _ (a _ _ h)
theorem Ex.refl (m : List Addr) : Ex m m := fun _ _ h => h
theorem Ex.trans {m m1 m2 : List Addr} (a : Ex m m1) (b : Ex m1 m2) : Ex m m2 := fun _ _ h => b _ _ (a _ _ h)
theorem Ex.app (m : List Addr) (p : Addr) : Ex m (m ++ [p]) := fun a q h => by
  rw [List.getElem?_append_left (List.getElem?_eq_some_iff.mp h).1]
  exact h
theorem Kp.upd_new {K : PySem.W.Frag} {H : Hp} {p : Addr} {o : HO} (h : H p = none) : Kp K H (upd H p o) := fun q vs s => by
  rcases s with (s | ⟨ob, s⟩) | s
  · exact .inl (.inl (by rw [upd_ne (ne_of_none s h)]; exact s))
  · exact .inl (.inr ⟨ob, by rw [upd_ne (ne_of_none s h)]; exact s⟩)
  · exact .inr s
def notTup : HO → Bool
  | .tup _ => false
  | .frz _ _ => false
  | _ => true
theorem Kp.upd_old {K : PySem.W.Frag} {H : Hp} {p : Addr} {o u : HO} (h : H p = some u) (n : notTup u = true) : Kp K H (upd H p o) := fun q vs s => by
  have ne : ∀ z, H q = some z → notTup z = false → q ≠ p := fun z e nz e2 => by
    subst e2; rw [h] at e; cases e; rw [n] at nz; cases nz
  rcases s with (s | ⟨ob, s⟩) | s
  · exact .inl (.inl (by rw [upd_ne (ne _ s rfl)]; exact s))
  · exact .inl (.inr ⟨ob, by rw [upd_ne (ne _ s rfl)]; exact s⟩)
  · exact .inr s
mutual
theorem RV.mono {K : PySem.W.Frag} {H H' : Hp} {m m' : List Addr} (k : Kp K H H') (e : Ex m m') : ∀ (x : PV) (v : V), RV K H m x v → RV K H' m' x v
  | .non, v, h => h
  | .bl b, v, h => h
  | .int i, v, h => h
  | .str s, v, h => h
  | .ref a, v, h => by obtain ⟨p, a, b⟩ := h; exact ⟨p, e _ _ a, b⟩
  | .tup xs, v, h => by obtain ⟨p, vs, a, b, c⟩ := h; exact ⟨p, vs, a, k _ _ b, RVs.mono k e xs vs c⟩
theorem RVs.mono {K : PySem.W.Frag} {H H' : Hp} {m m' : List Addr} (k : Kp K H H') (e : Ex m m') : ∀ (x : List PV) (v : List V), RVs K H m x v → RVs K H' m' x v
  | [], v, h => h
  | x :: xs, v, h => by obtain ⟨w, r, a, b, c⟩ := h; exact ⟨w, r, a, RV.mono k e x w b, RVs.mono k e xs r c⟩
end
theorem RKs.mono {K : PySem.W.Frag} {H H' : Hp} {m m' : List Addr} (k : Kp K H H') (e : Ex m m') : ∀ (x : List (PV × PV)) (v : List (Key × V)), RKs K H m x v → RKs K H' m' x v
  | [], v, h => h
  | (x, y) :: xs, v, h => by obtain ⟨w, u, r, a, b, c, d⟩ := h; exact ⟨w, u, r, a, b, RV.mono k e y u c, RKs.mono k e xs r d⟩
theorem optR.mono {K : PySem.W.Frag} {H H' : Hp} {m m' : List Addr} (k : Kp K H H') (e : Ex m m') : ∀ (x : Option PV) (v : Option V), optR K H m x v → optR K H' m' x v
  | some x, some v, h => RV.mono k e x v h
  | none, none, _ => trivial
  | some _, none, h => h.elim
  | none, some _, h => h.elim
theorem RL.mono {K : PySem.W.Frag} {H H' : Hp} {m m' : List Addr} {l : Loc} {σ : L2.St} (k : Kp K H H') (e : Ex m m') (r : RL K H m l σ) : RL K H' m' l σ :=
  ⟨r.1, fun i v h => let ⟨w, a, b⟩ := r.2 i v h; ⟨w, a, b.mono k e _ _⟩⟩
theorem RVs.len {K : PySem.W.Frag} {H : Hp} {m : List Addr} : ∀ {xs : List PV} {vs : List V}, RVs K H m xs vs → xs.length = vs.length
  | [], vs, h => by cases (show vs = [] from h); rfl
  | x :: xs, vs, h => by obtain ⟨v, r, a, _, c⟩ := h; subst a; rw [List.length_cons, List.length_cons, RVs.len c]
theorem RVs.get {K : PySem.W.Frag} {H : Hp} {m : List Addr} : ∀ {xs : List PV} {vs : List V} {i : Nat} {x : PV}, RVs K H m xs vs → xs[i]? = some x → ∃ v, vs[i]? = some v ∧ RV K H m x v
  | [], vs, i, x, h, e => by simp at e
  | y :: ys, vs, 0, x, h, e => by
    obtain ⟨v, r, a, b, c⟩ := h
    subst a
    simp at e; subst e
    exact ⟨v, rfl, b⟩
  | y :: ys, vs, i + 1, x, h, e => by
    obtain ⟨v, r, a, b, c⟩ := h
    subst a
    obtain ⟨w, p, q⟩ := RVs.get (i := i) c (by simpa using e)
    exact ⟨w, by simpa using p, q⟩
theorem RVs.app {K : PySem.W.Frag} {H : Hp} {m : List Addr} : ∀ {xs ys : List PV} {vs ws : List V}, RVs K H m xs vs → RVs K H m ys ws → RVs K H m (xs ++ ys) (vs ++ ws)
  | [], ys, vs, ws, h, g => by cases (show vs = [] from h); exact g
  | x :: xs, ys, vs, ws, h, g => by obtain ⟨v, r, a, b, c⟩ := h; subst a; exact ⟨v, r ++ ws, rfl, b, RVs.app c g⟩
theorem RVs.one {K : PySem.W.Frag} {H : Hp} {m : List Addr} {x : PV} {v : V} (h : RV K H m x v) : RVs K H m [x] [v] := ⟨v, [], rfl, h, rfl⟩
theorem RVs.drop {K : PySem.W.Frag} {H : Hp} {m : List Addr} : ∀ {xs : List PV} {vs : List V} (n : Nat), RVs K H m xs vs → RVs K H m (xs.drop n) (vs.drop n)
  | xs, vs, 0, h => h
  | [], vs, n + 1, h => by cases (show vs = [] from h); exact rfl
  | x :: xs, vs, n + 1, h => by obtain ⟨v, r, a, b, c⟩ := h; subst a; exact RVs.drop n c
theorem RVs.take {K : PySem.W.Frag} {H : Hp} {m : List Addr} : ∀ {xs : List PV} {vs : List V} (n : Nat), RVs K H m xs vs → RVs K H m (xs.take n) (vs.take n)
  | xs, vs, 0, h => rfl
  | [], vs, n + 1, h => by cases (show vs = [] from h); exact rfl
  | x :: xs, vs, n + 1, h => by obtain ⟨v, r, a, b, c⟩ := h; subst a; exact ⟨v, r.take n, rfl, b, RVs.take n c⟩
theorem RVs.setI {K : PySem.W.Frag} {H : Hp} {m : List Addr} {y : PV} {w : V} (hy : RV K H m y w) : ∀ {xs : List PV} {vs : List V} (i : Nat), RVs K H m xs vs → RVs K H m (xs.set i y) (vs.set i w)
  | [], vs, i, h => by cases (show vs = [] from h); exact rfl
  | x :: xs, vs, 0, h => by obtain ⟨v, r, a, b, c⟩ := h; subst a; exact ⟨w, r, rfl, hy, c⟩
  | x :: xs, vs, i + 1, h => by obtain ⟨v, r, a, b, c⟩ := h; subst a; exact ⟨v, r.set i w, rfl, b, RVs.setI hy i c⟩
theorem RO.mono {M : Mo} {H H' : Hp} {m m' : List Addr} {o : PO} {p : Addr} (k : Kp M.K H H') (e : Ex m m') (hp : ∀ u, H p = some u → H' p = some u) (r : RO M H m o p) : RO M H' m' o p := by
  cases o with
  | lst xs => obtain ⟨vs, a, b⟩ := r; exact ⟨vs, hp _ a, b.mono k e _ _⟩
  | frl xs =>
    obtain ⟨vs, a, b⟩ := r
    refine ⟨vs, ?_, b.mono k e _ _⟩
    rcases a with ⟨o, a⟩ | a
    · exact .inl ⟨o, hp _ a⟩
    · exact .inr a
  | dic kvs => obtain ⟨vs, a, b⟩ := r; exact ⟨vs, hp _ a, b.mono k e _ _⟩
  | ins c fs => obtain ⟨dx, gs, cd, a, b, c1, d⟩ := r; exact ⟨dx, gs, cd, hp _ a, b, fun f hf => (c1 f hf).mono k e _ _, d⟩
/-- the tracked content of an object that is no frozen list -/
theorem RO.at {M : Mo} {H : Hp} {m : List Addr} {o : PO} {p : Addr} (r : RO M H m o p) (n : isFrl o = false) : ∃ u, H p = some u ∧ notTup u = true := by
  cases o with
  | lst xs => obtain ⟨vs, a, b⟩ := r; exact ⟨_, a, rfl⟩
  | frl xs => cases n
  | dic kvs => obtain ⟨vs, a, b⟩ := r; exact ⟨_, a, rfl⟩
  | ins c fs => obtain ⟨dx, gs, cd, a, _⟩ := r; exact ⟨_, a, rfl⟩
theorem RH.lt {M : Mo} {H : Hp} {m : List Addr} {h : PH} (r : RH M H m h) {a : Nat} {p : Addr} (e : m[a]? = some p) : ∃ o, h[a]? = some o := by
  have h1 := (List.getElem?_eq_some_iff.mp e).1
  rw [r.len] at h1
  exact ⟨h[a], List.getElem?_eq_getElem h1⟩
theorem RH.addr {M : Mo} {H : Hp} {m : List Addr} {h : PH} (r : RH M H m h) {a : Nat} {o : PO} (e : h[a]? = some o) : ∃ p, m[a]? = some p ∧ RO M H m o p := by
  have h1 := (List.getElem?_eq_some_iff.mp e).1
  rw [← r.len] at h1
  exact ⟨m[a], List.getElem?_eq_getElem h1, r.obj a o _ e (List.getElem?_eq_getElem h1)⟩
/-- a new object -/
theorem RH.new {M : Mo} {H : Hp} {m : List Addr} {h : PH} {p : Addr} {u : HO} {o : PO} (r : RH M H m h) (hp : H p = none) (ho : RO M (upd H p u) (m ++ [p]) o p) (nf : isFrl o = false) :
    RH M (upd H p u) (m ++ [p]) (h ++ [o]) := by
  have k : Kp M.K H (upd H p u) := Kp.upd_new hp
  have ex : Ex m (m ++ [p]) := Ex.app m p
  have old : ∀ (a : Nat) (o' : PO) (q : Addr), h[a]? = some o' → m[a]? = some q → isFrl o' = false → q ≠ p := fun a o' q e1 e2 hf z => by
    subst z
    obtain ⟨u', e3, _⟩ := (r.obj a o' q e1 e2).at hf
    rw [hp] at e3; cases e3
  have cases_ : ∀ (a : Nat) (o' : PO) (q : Addr), (h ++ [o])[a]? = some o' → (m ++ [p])[a]? = some q → (h[a]? = some o' ∧ m[a]? = some q) ∨ (a = h.length ∧ o' = o ∧ q = p) := fun a o' q e1 e2 => by
    by_cases ha : a < h.length
    · rw [List.getElem?_append_left ha] at e1
      rw [List.getElem?_append_left (by rw [r.len]; exact ha)] at e2
      exact .inl ⟨e1, e2⟩
    · rw [List.getElem?_append_right (Nat.le_of_not_lt ha)] at e1
      rw [List.getElem?_append_right (by rw [r.len]; exact Nat.le_of_not_lt ha), r.len] at e2
      have hz : a - h.length = 0 := by
        cases hn : a - h.length with
        | zero => rfl
        | succ n => rw [hn] at e1; simp at e1
      rw [hz] at e1 e2
      simp at e1 e2
      exact .inr ⟨by omega, e1.symm, e2.symm⟩
  refine ⟨by simp [r.len], fun a o' q e1 e2 => ?_, fun a b q o1 o2 e1 e2 e3 e4 n1 n2 => ?_⟩
  · rcases cases_ a o' q e1 e2 with ⟨e1, e2⟩ | ⟨_, rfl, rfl⟩
    · exact (r.obj a o' q e1 e2).mono k ex fun u e => (upd_ne (ne_of_none e hp)).trans e
    · exact ho
  · rcases cases_ a o1 q e3 e1 with ⟨e3, e1⟩ | ⟨ha, _, hqa⟩ <;> rcases cases_ b o2 q e4 e2 with ⟨e4, e2⟩ | ⟨hb, _, hqb⟩
    · exact r.inj a b q o1 o2 e1 e2 e3 e4 n1 n2
    · exact absurd hqb (old a o1 q e3 e1 n1)
    · exact absurd hqa (old b o2 q e4 e2 n2)
    · omega
/-- an object changed -/
theorem RH.put {M : Mo} {H : Hp} {m : List Addr} {h : PH} {a : Nat} {p : Addr} {u : HO} {o o0 : PO} (r : RH M H m h) (e0 : h[a]? = some o0) (ep : m[a]? = some p) (n0 : isFrl o0 = false) (nf : isFrl o = false)
    (ho : RO M (upd H p u) m o p) : RH M (upd H p u) m (h.set a o) ∧ Kp M.K H (upd H p u) := by
  obtain ⟨u0, e3, n3⟩ := (r.obj a o0 p e0 ep).at n0
  have k : Kp M.K H (upd H p u) := Kp.upd_old e3 n3
  have hlt := (List.getElem?_eq_some_iff.mp e0).1
  refine ⟨⟨by simp [r.len], fun b o' q e1 e2 => ?_, fun b c q o1 o2 e1 e2 e3' e4 n1 n2 => ?_⟩, k⟩
  · by_cases hb : b = a
    · subst hb
      rw [List.getElem?_set_self hlt] at e1
      rw [ep] at e2
      cases e1; cases e2
      exact ho
    · rw [List.getElem?_set_ne (Ne.symm hb)] at e1
      have ro := r.obj b o' q e1 e2
      by_cases hq : q = p
      · subst hq
        cases hf : isFrl o' with
        | false => exact absurd (r.inj b a q o' o0 e2 ep e1 e0 hf n0) hb
        | true =>
          cases o' with
          | frl xs =>
            obtain ⟨vs, s, rv⟩ := ro
            refine ⟨vs, ?_, rv.mono k (Ex.refl m) _ _⟩
            rcases s with ⟨ob, s⟩ | s
            · rw [e3] at s; cases s; cases n3
            · exact .inr s
          | _ => cases hf
      · exact ro.mono k (Ex.refl m) fun u e => (upd_ne hq).trans e
  · have back : ∀ (b : Nat) (o1 : PO), (h.set a o)[b]? = some o1 → isFrl o1 = false → ∃ o1', h[b]? = some o1' ∧ isFrl o1' = false := fun b o1 e n => by
      by_cases hb : b = a
      · subst hb; exact ⟨o0, e0, n0⟩
      · rw [List.getElem?_set_ne (Ne.symm hb)] at e; exact ⟨o1, e, n⟩
    obtain ⟨o1', f1, g1⟩ := back b o1 e3' n1
    obtain ⟨o2', f2, g2⟩ := back c o2 e4 n2
    exact r.inj b c q o1' o2' e1 e2 f1 f2 g1 g2
end Py

set_option Elab.async false
set_option linter.all false
set_option maxRecDepth 100000
set_option maxHeartbeats 4000000
/-! PySound2: values by values: operators, comparisons, subscripts, built-ins. -/
namespace Py
open PySem PySem.Spec PyProof.Rows L2

/-! ### readings of the layer from readings of ours -/
def LQ (M : Mo) (m : List Addr) (H : Hp) (Q : VK) : KQ := fun v h' => ∀ (m' : List Addr) (H' : Hp) (w : V), Ex m m' → Kp M.K H H' → RH M H' m' h' → RV M.K H' m' v w → Q w H'
def LA (M : Mo) (m : List Addr) (H : Hp) (Q : List V → Hp → Prop) : List PV → PH → Prop := fun v h' => ∀ (m' : List Addr) (H' : Hp) (w : List V), Ex m m' → Kp M.K H H' → RH M H' m' h' → RVs M.K H' m' v w → Q w H'
def LB (M : Mo) {α : Type} (m : List Addr) (H : Hp) (Q : α → Hp → Prop) : α → PH → Prop := fun b h' => ∀ (m' : List Addr) (H' : Hp), Ex m m' → Kp M.K H H' → RH M H' m' h' → Q b H'
/-- exceptions -/
def RX (M : Mo) (H : Hp) (m : List Addr) (x : XV) (cls : Value) (d : Option Addr) : Prop := cls = .ref (M.ca x.c)
def LX (M : Mo) (W : WX) (σ : L2.St) (m : List Addr) (H : Hp) : KX := fun x h' => ∀ (m' : List Addr) (H' : Hp) (cls : Value) (d : Option Addr), Ex m m' → Kp M.K H H' → RH M H' m' h' → RX M H' m' x cls d → W cls d σ H'
section
variable {M : Mo} {m m1 : List Addr} {H H1 : Hp}
theorem LQ.mono {Q : VK} (e : Ex m m1) (k : Kp M.K H H1) : ∀ v h, LQ M m H Q v h → LQ M m1 H1 Q v h := fun v h q m' H' w e' k' r rv => q m' H' w (e.trans e') (k.trans k') r rv
theorem LA.mono {Q : List V → Hp → Prop} (e : Ex m m1) (k : Kp M.K H H1) : ∀ v h, LA M m H Q v h → LA M m1 H1 Q v h := fun v h q m' H' w e' k' r rv => q m' H' w (e.trans e') (k.trans k') r rv
theorem LB.mono {α : Type} {Q : α → Hp → Prop} (e : Ex m m1) (k : Kp M.K H H1) : ∀ v h, LB M m H Q v h → LB M m1 H1 Q v h := fun v h q m' H' e' k' r => q m' H' (e.trans e') (k.trans k') r
theorem LX.mono {W : WX} {σ : L2.St} (e : Ex m m1) (k : Kp M.K H H1) : ∀ v h, LX M W σ m H v h → LX M W σ m1 H1 v h := fun v h q m' H' c d e' k' r rx => q m' H' c d (e.trans e') (k.trans k') r rx
theorem LQ.at {Q : VK} {v : PV} {h : PH} {w : V} (q : LQ M m H Q v h) (r : RH M H m h) (rv : RV M.K H m v w) : Q w H := q m H w (Ex.refl m) (Kp.refl _ H) r rv
theorem LB.at {α : Type} {Q : α → Hp → Prop} {v : α} {h : PH} (q : LB M m H Q v h) (r : RH M H m h) : Q v H := q m H (Ex.refl m) (Kp.refl _ H) r
/-- a new object, handed on -/
theorem LQ.new {Q : VK} {h : PH} {o : PO} {u : HO} (q : LQ M m H Q (.ref h.length) (h ++ [o])) (r : RH M H m h) (nf : isFrl o = false) (ho : ∀ p, H p = none → RO M (upd H p u) (m ++ [p]) o p) : ∀ p, H p = none → Q (.ref p) (upd H p u) := fun p hp => by
  refine q (m ++ [p]) (upd H p u) (.ref p) (Ex.app m p) (Kp.upd_new hp) (r.new hp (ho p hp) nf) ⟨p, ?_, rfl⟩
  rw [← r.len]; simp
end

/-! ### lists, data -/
theorem lstOf_get {M : Mo} {H : Hp} {m : List Addr} {h : PH} {v : PV} {w : V} {xs : List PV} (r : RH M H m h) (rv : RV M.K H m v w) (e : lstOf h v = some xs) : ∃ p vs, w = .ref p ∧ SqL M.K H p vs ∧ RVs M.K H m xs vs := by
  unfold lstOf at e
  split at e
  · rename_i a
    obtain ⟨p, e1, rfl⟩ := rv
    split at e
    · rename_i ys e2
      cases e
      obtain ⟨vs, a1, a2⟩ := r.obj _ _ _ e2 e1
      exact ⟨p, vs, rfl, .inl (.inl a1), a2⟩
    · rename_i ys e2
      cases e
      obtain ⟨vs, a1, a2⟩ := r.obj _ _ _ e2 e1
      refine ⟨p, vs, rfl, ?_, a2⟩
      rcases a1 with ⟨o, a1⟩ | a1
      · exact .inl (.inr ⟨o, a1⟩)
      · exact .inr a1
    · cases e
  · cases e
theorem lst_get {M : Mo} {H : Hp} {m : List Addr} {h : PH} {a : Nat} {w : V} {xs : List PV} (r : RH M H m h) (rv : RV M.K H m (.ref a) w) (e : h[a]? = some (.lst xs)) : ∃ p vs, w = .ref p ∧ m[a]? = some p ∧ H p = some (.lst vs) ∧ RVs M.K H m xs vs := by
  obtain ⟨p, e1, rfl⟩ := rv
  obtain ⟨vs, a1, a2⟩ := r.obj _ _ _ e e1
  exact ⟨p, vs, rfl, e1, a1, a2⟩
theorem seqOf_get {M : Mo} {H : Hp} {m : List Addr} {h : PH} {v : PV} {w : V} {xs : List PV} (r : RH M H m h) (rv : RV M.K H m v w) (e : seqOf h v = some xs) : ∃ p vs, w = .ref p ∧ (SqL M.K H p vs ∨ SqT M.K H p vs) ∧ RVs M.K H m xs vs := by
  unfold seqOf at e
  split at e
  · cases e
    obtain ⟨p, vs, e1, e2, e3⟩ := rv
    exact ⟨p, vs, e1, .inr e2, e3⟩
  · obtain ⟨p, vs, a, b, c⟩ := lstOf_get r rv e
    exact ⟨p, vs, a, .inl b, c⟩
mutual
theorem Dat.dp {M : Mo} {H : Hp} {m : List Addr} {h : PH} (r : RH M H m h) : ∀ (d : PyData) (v : PV) (w : V), Dat h d v → RV M.K H m v w → Dp M.K H w d
  | .none, v, w, e, rv => by cases (show v = .non from e); cases (show w = .non from rv); exact .non
  | .bool b, v, w, e, rv => by cases (show v = .bl b from e); cases (show w = .bl b from rv); exact .bl b
  | .int i, v, w, e, rv => by cases (show v = .int i from e); cases (show w = .int i from rv); exact .int i
  | .str s, v, w, e, rv => by cases (show v = .str s from e); cases (show w = .str s from rv); exact .str s
  | .tuple ds, v, w, e, rv => by
    obtain ⟨xs, rfl, e2⟩ := e
    obtain ⟨p, vs, rfl, e3, e4⟩ := rv
    exact .tup e3 (Dats.dp r ds xs vs e2 e4)
  | .list ds, v, w, e, rv => by
    obtain ⟨xs, e1, e2⟩ := e
    obtain ⟨p, vs, rfl, e3, e4⟩ := lstOf_get r rv e1
    exact .lst e3 (Dats.dp r ds xs vs e2 e4)
  | .dict _, v, w, e, rv => e.elim
theorem Dats.dp {M : Mo} {H : Hp} {m : List Addr} {h : PH} (r : RH M H m h) : ∀ (d : List PyData) (v : List PV) (w : List V), Dats h d v → RVs M.K H m v w → DpAll M.K H w d
  | [], v, w, e, rv => by cases (show v = [] from e); cases (show w = [] from rv); exact .nil
  | d :: ds, v, w, e, rv => by
    obtain ⟨y, ys, rfl, e1, e2⟩ := e
    obtain ⟨z, zs, rfl, e3, e4⟩ := rv
    exact .cons (Dat.dp r d y z e1 e3) (Dats.dp r ds ys zs e2 e4)
end
theorem RVs.rep {K : PySem.W.Frag} {H : Hp} {m : List Addr} {xs : List PV} {vs : List V} (h : RVs K H m xs vs) : ∀ n : Nat, RVs K H m (List.replicate n xs).flatten (List.replicate n vs).flatten
  | 0 => rfl
  | n + 1 => by rw [List.replicate_succ, List.replicate_succ, List.flatten_cons, List.flatten_cons]; exact h.app (RVs.rep h n)
theorem RV.isN {K : PySem.W.Frag} {H : Hp} {m : List Addr} {a : PV} {x : V} (ra : RV K H m a x) : isNonB a = decide (x = .non) := by
  cases a with
  | non => cases (show x = .non from ra); rfl
  | bl _ => cases (show x = .bl _ from ra); rfl
  | int _ => cases (show x = .int _ from ra); rfl
  | str _ => cases (show x = .str _ from ra); rfl
  | tup _ => obtain ⟨p, vs, rfl, _⟩ := ra; rfl
  | ref _ => obtain ⟨p, _, rfl⟩ := ra; rfl
theorem atI_eq {α : Type} (xs : List α) (i : Int) : L2.atI xs i = atI xs i := rfl
theorem RVs.atI {K : PySem.W.Frag} {H : Hp} {m : List Addr} {xs : List PV} {vs : List V} {i : Int} {x : PV} (h : RVs K H m xs vs) (e : Py.atI xs i = some x) : ∃ v, L2.atI vs i = some v ∧ RV K H m x v := by
  unfold Py.atI at e
  rw [h.len] at e
  obtain ⟨j, e1, e2⟩ := Option.bind_eq_some_iff.mp e
  obtain ⟨v, e3, e4⟩ := h.get e2
  refine ⟨v, ?_, e4⟩
  show (L2.ixN vs.length i).bind _ = _
  rw [show L2.ixN vs.length i = Py.ixN vs.length i from rfl, e1]
  exact e3
theorem RVs.cut {K : PySem.W.Frag} {H : Hp} {m : List Addr} {xs : List PV} {vs : List V} (lo hi : Option Int) (h : RVs K H m xs vs) : RVs K H m (Py.cut xs lo hi) (L2.cutV vs lo hi) := by
  unfold Py.cut L2.cutV
  have e : ∀ n d o, HT.sIx n d o = Py.sIx n d o := fun n d o => by cases o <;> rfl
  rw [h.len, e, e]
  exact RVs.take _ (RVs.drop _ h)
theorem cut_whole {α : Type} (xs : List α) (lo hi : Option Int) (h1 : sIx xs.length 0 lo = 0) (h2 : sIx xs.length xs.length hi = xs.length) : cut xs lo hi = xs := by
  unfold cut
  rw [h1, h2]
  simp

/-! ### operators -/
def bopOf : BO → Operator
  | .add => .Add | .sub => .Sub | .mul => .Mult | .fdiv => .FloorDiv | .mod => .Mod | .pow => .Pow
def copOf : CO → CmpOp
  | .eq => .Eq | .ne => .NotEq | .lt => .Lt | .le => .LtE | .gt => .Gt | .ge => .GtE | .inn => .In | .nin => .NotIn | .isN => .Is | .notN => .IsNot
def r2 (M : Mo) (R : PV → PV → PH → KQ → Prop) : R2 := fun x y H Q => ∃ m h a b, RH M H m h ∧ RV M.K H m a x ∧ RV M.K H m b y ∧ R a b h (LQ M m H Q)
theorem op_fdivG {X : Cx} : OpR X (binaryOp .FloorDiv) (rI (fun _ j => j ≠ 0 ∧ j.natAbs.log2 < 9000) fun i j => .int (i.fdiv j)) := opI fun i j _ _ _ _ _ hc q => floordiv_int hc.1 q (.inl (PyProof.noPylong_of_log2 hc.2))
section
variable {M : Mo} {X : Cx}
theorem sB (hK : X.K = M.K) : ∀ (o : BO), OpR X (binaryOp (bopOf o)) (r2 M (binV o)) := by
  intro o pins s σ H x y v u Q I rx ry h
  obtain ⟨m, hh, a, b, rh, ra, rb, q⟩ := h
  unfold binV at q
  split at q
  · cases (show x = .int _ from ra); cases (show y = .int _ from rb)
    exact op_add pins s σ H _ _ v u Q I rx ry ⟨_, _, rfl, rfl, q.at rh rfl⟩
  · cases (show x = .str _ from ra); cases (show y = .str _ from rb)
    exact op_add_str pins s σ H _ _ v u Q I rx ry ⟨_, _, rfl, rfl, q.1, q.2.at rh rfl⟩
  · rename_i xs ys
    obtain ⟨p, vs, rfl, e1, e2⟩ := ra
    obtain ⟨p', ws, rfl, e3, e4⟩ := rb
    rw [← hK] at e1 e3
    have hl : vs.length + ws.length ≤ sizeLine := by rw [← e2.len, ← e4.len]; exact q.1
    refine op_catA pins s σ H _ _ v u Q I rx ry ⟨p, p', vs, ws, rfl, rfl, e1, e3, hl, fun hn => ?_, fun hn hn2 => ?_, fun hn hn2 p2 hp2 => ?_⟩
    · have : xs = [] := by have := e2.len; rw [hn] at this; simpa using this
      subst this
      rw [hK] at e3
      exact q.2.at rh ⟨p', ws, rfl, e3, e4⟩
    · have : ys = [] := by have := e4.len; rw [hn2] at this; simpa using this
      subst this
      rw [hK] at e1
      refine q.2.at rh ?_
      rw [List.append_nil]
      exact ⟨p, vs, rfl, e1, e2⟩
    · refine q.2 m (upd H p2 (.tup (vs ++ ws))) _ (Ex.refl m) (Kp.upd_new hp2) ?_ ⟨p2, vs ++ ws, rfl, .inl (.inl upd_same), (e2.app e4).mono (Kp.upd_new hp2) (Ex.refl m) _ _⟩
      exact ⟨rh.len, fun c o q' e1 e2 => (rh.obj c o q' e1 e2).mono (Kp.upd_new hp2) (Ex.refl m) fun u' e => (upd_ne (ne_of_none e hp2)).trans e, rh.inj⟩
  · obtain ⟨xs, ys, e1, e2, e3, q⟩ := q
    obtain ⟨p, vs, rfl, _, e4, e5⟩ := lst_get rh ra e1
    obtain ⟨p', ws, rfl, _, e6, e7⟩ := lst_get rh rb e2
    refine op_cat pins s σ H _ _ v u Q I rx ry ⟨p, p', vs, ws, rfl, rfl, e4, e6, by rw [← e5.len, ← e7.len]; exact e3, ?_⟩
    exact q.new rh rfl fun p2 hp2 => ⟨vs ++ ws, upd_same, (e5.app e7).mono (Kp.upd_new hp2) (Ex.app m p2) _ _⟩
  · cases (show x = .int _ from ra); cases (show y = .int _ from rb)
    exact op_sub pins s σ H _ _ v u Q I rx ry ⟨_, _, rfl, rfl, q.at rh rfl⟩
  · cases (show x = .int _ from ra); cases (show y = .int _ from rb)
    exact op_mul pins s σ H _ _ v u Q I rx ry ⟨_, _, rfl, rfl, q.1, q.2.at rh rfl⟩
  · obtain ⟨xs, e1, e2, e3, e4, q⟩ := q
    obtain ⟨p, vs, rfl, _, e5, e6⟩ := lst_get rh ra e1
    cases (show y = .int _ from rb)
    refine op_rep pins s σ H _ _ v u Q I rx ry ⟨p, _, vs, rfl, rfl, e5, e2, e3, by rw [← e6.len]; exact e4, ?_⟩
    refine q.new rh rfl fun p2 hp2 => ⟨_, upd_same, ?_⟩
    refine RVs.mono (Kp.upd_new hp2) (Ex.app m p2) _ _ ?_
    exact e6.rep _
  · cases (show x = .int _ from ra); cases (show y = .int _ from rb)
    exact op_fdivG pins s σ H _ _ v u Q I rx ry ⟨_, _, rfl, rfl, ⟨q.1, q.2.1⟩, q.2.2.at rh rfl⟩
  · cases (show x = .int _ from ra); cases (show y = .int _ from rb)
    exact op_modN pins s σ H _ _ v u Q I rx ry ⟨_, _, rfl, rfl, q.1, q.2.at rh rfl⟩
  · cases (show x = .int _ from ra); cases (show y = .int _ from rb)
    exact op_pow pins s σ H _ _ v u Q I rx ry ⟨_, _, rfl, rfl, q.1, q.2.at rh rfl⟩
  · exact q.elim
theorem sA : ∀ (o : BO), OpR X (inplaceOp (bopOf o)) (r2 M (augV o)) := by
  intro o pins s σ H x y v u Q I rx ry h
  obtain ⟨m, hh, a, b, rh, ra, rb, q⟩ := h
  unfold augV at q
  split at q
  · cases (show x = .int _ from ra); cases (show y = .int _ from rb)
    exact iop_add pins s σ H _ _ v u Q I rx ry ⟨_, _, rfl, rfl, q.at rh rfl⟩
  · cases (show x = .str _ from ra); cases (show y = .str _ from rb)
    exact iop_add_str pins s σ H _ _ v u Q I rx ry ⟨_, _, rfl, rfl, q.1, q.2.at rh rfl⟩
  · cases (show x = .int _ from ra); cases (show y = .int _ from rb)
    exact iop_sub pins s σ H _ _ v u Q I rx ry ⟨_, _, rfl, rfl, q.at rh rfl⟩
  · exact q.elim
/-- a comparison -/
def rC (M : Mo) (o : CO) : R2 := fun x y H Q => ∃ m h a b, RH M H m h ∧ RV M.K H m a x ∧ RV M.K H m b y ∧ cmpV o a b h (LB M m H fun r H' => Q (.bl r) H')
theorem sC (hK : X.K = M.K) (hu : X.A.units + 64 < cLine) : ∀ (o : CO), OpR X (compareOp (copOf o)) (rC M o) := by
  intro o pins s σ H x y v u Q I rx ry h
  obtain ⟨m, hh, a, b, rh, ra, rb, q⟩ := h
  unfold cmpV at q
  split at q
  · obtain ⟨d, e, h1, h2, h3, h4, q⟩ := q
    refine op_eqD hu pins s σ H _ _ v u Q I rx ry ⟨d, e, ?_, ?_, h3, h4, q.at rh⟩
    · rw [hK]; exact Dat.dp rh _ _ _ h1 ra
    · rw [hK]; exact Dat.dp rh _ _ _ h2 rb
  · obtain ⟨d, e, h1, h2, h3, h4, q⟩ := q
    refine op_neD hu pins s σ H _ _ v u Q I rx ry ⟨d, e, ?_, ?_, h3, h4, q.at rh⟩
    · rw [hK]; exact Dat.dp rh _ _ _ h1 ra
    · rw [hK]; exact Dat.dp rh _ _ _ h2 rb
  · cases (show x = .int _ from ra); cases (show y = .int _ from rb)
    exact op_lt pins s σ H _ _ v u Q I rx ry ⟨_, _, rfl, rfl, q.at rh⟩
  · cases (show x = .int _ from ra); cases (show y = .int _ from rb)
    exact op_le pins s σ H _ _ v u Q I rx ry ⟨_, _, rfl, rfl, q.at rh⟩
  · cases (show x = .int _ from ra); cases (show y = .int _ from rb)
    exact op_gt pins s σ H _ _ v u Q I rx ry ⟨_, _, rfl, rfl, q.at rh⟩
  · cases (show x = .int _ from ra); cases (show y = .int _ from rb)
    exact op_ge pins s σ H _ _ v u Q I rx ry ⟨_, _, rfl, rfl, q.at rh⟩
  · cases (show y = .non from rb)
    refine op_isN pins s σ H _ _ v u Q I rx ry ⟨rfl, ?_⟩
    rw [← ra.isN]; exact q.at rh
  · cases (show y = .non from rb)
    refine op_notN pins s σ H _ _ v u Q I rx ry ⟨rfl, ?_⟩
    rw [← ra.isN]; exact q.at rh
  · exact q.elim
theorem sIx_ (hK : X.K = M.K) : IxR X (r2 M idxV) := by
  intro value slice pins s σ H x y v u Q I rx ry h hs
  obtain ⟨m, hh, a, b, rh, ra, rb, q⟩ := h
  unfold idxV at q
  split at q
  · obtain ⟨z, e, q⟩ := q
    obtain ⟨p, vs, rfl, e1, e2⟩ := ra
    cases (show y = .int _ from rb)
    obtain ⟨w, e3, e4⟩ := e2.atI e
    exact ix_tup value slice pins s σ H _ _ v u Q I rx ry ⟨p, vs, _, w, rfl, rfl, by rw [hK]; exact e1, e3, q.at rh e4⟩ hs
  · obtain ⟨hl, c, e, q⟩ := q
    cases (show x = .str _ from ra); cases (show y = .int _ from rb)
    exact ix_str value slice pins s σ H _ _ v u Q I rx ry ⟨_, _, c, rfl, rfl, hl, e, q.at rh rfl⟩ hs
  · obtain ⟨xs, z, e0, e, q⟩ := q
    obtain ⟨p, vs, rfl, e1, e2⟩ := lstOf_get rh ra e0
    cases (show y = .int _ from rb)
    obtain ⟨w, e3, e4⟩ := e2.atI e
    exact ix_list value slice pins s σ H _ _ v u Q I rx ry ⟨p, vs, _, w, rfl, rfl, by rw [hK]; exact e1, e3, q.at rh e4⟩ hs
  · exact q.elim
def rS (M : Mo) : V → Option Int → Option Int → Hp → VK → Prop := fun x lo hi H Q => ∃ m h a, RH M H m h ∧ RV M.K H m a x ∧ slcV a lo hi h (LQ M m H Q)
theorem sSl (hK : X.K = M.K) : SlR X (rS M) := by
  intro pins s σ H x v vl vu lo hi sl Q I rx hs pl pu h
  obtain ⟨m, hh, a, rh, ra, q⟩ := h
  cases a with
  | tup xs =>
    have q : LQ M m H Q (.tup (Py.cut xs lo hi)) hh := q
    obtain ⟨p, vs, rfl, e1, e2⟩ := ra
    have el := e2.len
    have ee : ∀ n d o, HT.sIx n d o = Py.sIx n d o := fun n d o => by cases o <;> rfl
    refine sl_tupA pins s σ H _ v vl vu lo hi sl Q I rx hs pl pu ⟨p, vs, rfl, by rw [hK]; exact e1, fun hw => ?_, fun hw p2 hp2 => ?_⟩
    · refine q.at rh ?_
      rw [cut_whole xs lo hi (by rw [el, ← ee]; exact hw.1) (by rw [el, ← ee]; exact hw.2)]
      exact ⟨p, vs, rfl, e1, e2⟩
    · refine q m (upd H p2 (.tup (cutV vs lo hi))) _ (Ex.refl m) (Kp.upd_new hp2) ?_ ⟨p2, cutV vs lo hi, rfl, .inl (.inl upd_same), (e2.cut lo hi).mono (Kp.upd_new hp2) (Ex.refl m) _ _⟩
      exact ⟨rh.len, fun c o q' e1 e2 => (rh.obj c o q' e1 e2).mono (Kp.upd_new hp2) (Ex.refl m) fun u' e => (upd_ne (ne_of_none e hp2)).trans e, rh.inj⟩
  | ref a =>
    obtain ⟨xs, e0, q⟩ := (show ∃ xs, lstOf hh (.ref a) = some xs ∧ LQ M m H Q (.ref hh.length) (hh ++ [.lst (Py.cut xs lo hi)]) from q)
    obtain ⟨p, vs, rfl, e1, e2⟩ := lstOf_get rh ra e0
    refine sl_list pins s σ H _ v vl vu lo hi sl Q I rx hs pl pu ⟨p, vs, rfl, by rw [hK]; exact e1, ?_⟩
    exact q.new rh rfl fun p2 hp2 => ⟨_, upd_same, (e2.cut lo hi).mono (Kp.upd_new hp2) (Ex.app m p2) _ _⟩
  | _ => exact (show False from q).elim
end
/-- a tuple laid -/
theorem RH.tup {M : Mo} {H : Hp} {m : List Addr} {h : PH} {p : Addr} {u : HO} (r : RH M H m h) (hp : H p = none) : RH M (upd H p u) m h :=
  ⟨r.len, fun c o q' e1 e2 => (r.obj c o q' e1 e2).mono (Kp.upd_new hp) (Ex.refl m) fun u' e => (upd_ne (ne_of_none e hp)).trans e, r.inj⟩

/-! ### built-in functions -/
def rF (M : Mo) (f : BF) : List V → Hp → VK → Prop := fun ws H Q => ∃ m h vs, RH M H m h ∧ RVs M.K H m vs ws ∧ bfV f vs h (LQ M m H Q)
theorem RVs.one_of {K : PySem.W.Frag} {H : Hp} {m : List Addr} {x : PV} {ws : List V} (h : RVs K H m [x] ws) : ∃ w, ws = [w] ∧ RV K H m x w := by
  obtain ⟨w, r, rfl, a, b⟩ := h
  cases (show r = [] from b)
  exact ⟨w, rfl, a⟩
theorem RVs.two_of {K : PySem.W.Frag} {H : Hp} {m : List Addr} {x y : PV} {ws : List V} (h : RVs K H m [x, y] ws) : ∃ w z, ws = [w, z] ∧ RV K H m x w ∧ RV K H m y z := by
  obtain ⟨w, r, rfl, a, b⟩ := h
  obtain ⟨z, rfl, c⟩ := b.one_of
  exact ⟨w, z, rfl, a, c⟩
/-- a built-in type of a value -/
theorem tyN_of {M : Mo} {H : Hp} {m : List Addr} {h : PH} {v : PV} {w : V} {t : String} (r : RH M H m h) (rv : RV M.K H m v w) (e : tyN h v = some t) : TyX M.K H w (.type t) := by
  cases v with
  | non => cases e; cases (show w = .non from rv); exact .base .non
  | bl b => cases e; cases (show w = .bl b from rv); exact .base (.bl b)
  | int b => cases e; cases (show w = .int b from rv); exact .base (.int b)
  | str b => cases e; cases (show w = .str b from rv); exact .base (.str b)
  | tup xs =>
    cases e
    obtain ⟨p, vs, rfl, e1, e2⟩ := rv
    rcases e1 with (e1 | ⟨o, e1⟩) | ⟨o, its, n, e1, e3, _⟩
    · exact .base (.tup e1)
    · exact .fTuple e1
    · exact .kTuple e1 e3
  | ref a =>
    obtain ⟨p, e1, rfl⟩ := rv
    unfold tyN at e
    dsimp only at e
    split at e
    · rename_i xs e2
      cases e
      obtain ⟨vs, e3, _⟩ := r.obj _ _ _ e2 e1
      exact .base (.lst e3)
    · rename_i xs e2
      cases e
      obtain ⟨vs, e3, _⟩ := r.obj _ _ _ e2 e1
      rcases e3 with ⟨o, e3⟩ | ⟨o, its, n, e3, e4, _⟩
      · exact .base (.frz e3)
      · exact .kList e3 e4
    · rename_i xs e2
      cases e
      obtain ⟨vs, e3, _⟩ := r.obj _ _ _ e2 e1
      exact .base (.dK e3)
    · cases e
theorem isB_kit {K : PySem.W.Frag} {T t : String} (hT : T = "int" ∨ T = "bool" ∨ T = "str" ∨ T = "list" ∨ T = "tuple") (ht : t = "NoneType" ∨ t = "bool" ∨ t = "int" ∨ t = "str" ∨ t = "tuple" ∨ t = "list" ∨ t = "dict") :
    PySem.W.kitOne K (.type t) (.type T) = some (isB T t) := by
  rcases hT with rfl | rfl | rfl | rfl | rfl <;> rcases ht with rfl | rfl | rfl | rfl | rfl | rfl | rfl <;> exact kit_ty (by decide +kernel)
theorem tyN_in {h : PH} {v : PV} {t : String} (e : tyN h v = some t) : t = "NoneType" ∨ t = "bool" ∨ t = "int" ∨ t = "str" ∨ t = "tuple" ∨ t = "list" ∨ t = "dict" := by
  unfold tyN at e
  split at e
  · cases e; simp
  · cases e; simp
  · cases e; simp
  · cases e; simp
  · cases e; simp
  · split at e
    · cases e; simp
    · cases e; simp
    · cases e; simp
    · cases e
section
variable {M : Mo} {X : Cx}
/-- isinstance(x, T) by values -/
theorem sIsi (hK : X.K = M.K) {T : String} (hT : T = "int" ∨ T = "bool" ∨ T = "str" ∨ T = "list" ∨ T = "tuple") :
    CallR X (.builtin "isinstance") (fun ws H Q => ∃ m h v w t, RH M H m h ∧ ws = [w, .ty T] ∧ RV M.K H m v w ∧ tyN h v = some t ∧ Q (.bl (isB T t)) H) := by
  intro pins s σ H xs us Q I r h
  obtain ⟨m, h, v, w, t, rh, rfl, rv, e, q⟩ := h
  exact call_isi pins s σ H _ us Q I r ⟨w, .ty T, .type t, .type T, isB T t, rfl, .ty T, by rw [hK]; exact tyN_of rh rv e, isB_kit hT (tyN_in e), q⟩
theorem sLen (hK : X.K = M.K) : CallR X (.builtin "len") (rF M .len) := by
  intro pins s σ H xs us Q I r h
  obtain ⟨m, h, vs, rh, rv, q⟩ := h
  unfold bfV at q
  split at q
  · obtain ⟨w, rfl, rw_⟩ := rv.one_of
    cases (show w = .str _ from rw_)
    exact call_len_str pins s σ H _ us Q I r ⟨_, rfl, q.1, q.2.at rh rfl⟩
  · obtain ⟨ys, e, q⟩ := q
    obtain ⟨w, rfl, rw_⟩ := rv.one_of
    obtain ⟨p, zs, rfl, e1, e2⟩ := seqOf_get rh rw_ e
    refine call_len_seq pins s σ H _ us Q I r ⟨p, zs, rfl, by rw [hK]; exact e1, ?_⟩
    rw [← e2.len]
    exact q.at rh rfl
  all_goals first | exact q.elim | (rename_i h0; cases h0)
theorem sList1 (hK : X.K = M.K) : CallR X (.type "list") (rF M .list1) := by
  intro pins s σ H xs us Q I r h
  obtain ⟨m, h, vs, rh, rv, q⟩ := h
  match vs, q with
  | [v], q =>
    obtain ⟨ys, e, q⟩ := (show ∃ xs, seqOf h v = some xs ∧ LQ M m H Q (.ref h.length) (h ++ [.lst xs]) from q)
    obtain ⟨w, rfl, rw_⟩ := rv.one_of
    obtain ⟨p, zs, rfl, e1, e2⟩ := seqOf_get rh rw_ e
    refine call_list_of pins s σ H _ us Q I r ⟨p, zs, rfl, by rw [hK]; exact e1, ?_⟩
    exact q.new rh rfl fun p2 hp2 => ⟨_, upd_same, e2.mono (Kp.upd_new hp2) (Ex.app m p2) _ _⟩
  | [], q => exact (show False from q).elim
  | _ :: _ :: _, q => exact (show False from q).elim
theorem sTuple1 (hK : X.K = M.K) : CallR X (.type "tuple") (rF M .tuple1) := by
  intro pins s σ H xs us Q I r h
  obtain ⟨m, h, vs, rh, rv, q⟩ := h
  have main : ∀ (v : PV) (ys : List PV) (w : V), RV M.K H m v w → xs = [w] → (v = .tup ys ∨ lstOf h v = some ys) → LQ M m H Q (.tup ys) h → wpAny (model X.prog X.w) X.A (call (.type "tuple") us) (EP X pins σ Q) X.xe s := by
    intro v ys w rw_ hx e q
    subst hx
    rcases e with e | e
    · subst e
      obtain ⟨p, zs, rfl, e1, e2⟩ := rw_
      exact call_tuple_of pins s σ H _ us Q I r ⟨p, zs, rfl, .inr ⟨by rw [hK]; exact e1, q.at rh ⟨p, zs, rfl, e1, e2⟩⟩⟩
    · obtain ⟨p, zs, rfl, e1, e2⟩ := lstOf_get rh rw_ e
      refine call_tuple_of pins s σ H _ us Q I r ⟨p, zs, rfl, .inl ⟨by rw [hK]; exact e1, fun l hl => ?_⟩⟩
      exact q m (upd H l (.tup zs)) _ (Ex.refl m) (Kp.upd_new hl) (rh.tup hl) ⟨l, zs, rfl, .inl (.inl upd_same), e2.mono (Kp.upd_new hl) (Ex.refl m) _ _⟩
  match vs, q with
  | [.tup ys], q =>
    obtain ⟨w, hx, rw_⟩ := rv.one_of
    exact main _ ys w rw_ hx (.inl rfl) q
  | [.ref a], q =>
    obtain ⟨ys, e, q⟩ := (show ∃ xs, lstOf h (.ref a) = some xs ∧ LQ M m H Q (.tup xs) h from q)
    obtain ⟨w, hx, rw_⟩ := rv.one_of
    exact main _ ys w rw_ hx (.inr e) q
  | [.non], q => obtain ⟨ys, e, q⟩ := (show ∃ xs, lstOf h .non = some xs ∧ LQ M m H Q (.tup xs) h from q); cases e
  | [.bl b], q => obtain ⟨ys, e, q⟩ := (show ∃ xs, lstOf h (.bl b) = some xs ∧ LQ M m H Q (.tup xs) h from q); cases e
  | [.int b], q => obtain ⟨ys, e, q⟩ := (show ∃ xs, lstOf h (.int b) = some xs ∧ LQ M m H Q (.tup xs) h from q); cases e
  | [.str b], q => obtain ⟨ys, e, q⟩ := (show ∃ xs, lstOf h (.str b) = some xs ∧ LQ M m H Q (.tup xs) h from q); cases e
  | [], q => exact (show False from q).elim
  | a :: _ :: _, q => cases a <;> exact (show False from q).elim
theorem sMin2 (hc : X.calm = true) : CallR X (.builtin "min") (rF M .min2) := by
  intro pins s σ H xs us Q I r h
  obtain ⟨m, h, vs, rh, rv, q⟩ := h
  unfold bfV at q
  split at q
  all_goals first | (rename_i h0; cases h0; done) | skip
  · obtain ⟨w, z, rfl, r1, r2⟩ := rv.two_of
    cases (show w = .int _ from r1); cases (show z = .int _ from r2)
    exact call_min2 hc pins s σ H _ us Q I r ⟨_, _, rfl, q.at rh rfl⟩
  · exact q.elim
theorem sMax2 (hc : X.calm = true) : CallR X (.builtin "max") (rF M .max2) := by
  intro pins s σ H xs us Q I r h
  obtain ⟨m, h, vs, rh, rv, q⟩ := h
  unfold bfV at q
  split at q
  all_goals first | (rename_i h0; cases h0; done) | skip
  · obtain ⟨w, z, rfl, r1, r2⟩ := rv.two_of
    cases (show w = .int _ from r1); cases (show z = .int _ from r2)
    exact call_max2 hc pins s σ H _ us Q I r ⟨_, _, rfl, q.at rh rfl⟩
  · exact q.elim
theorem sAbs : CallR X (.builtin "abs") (rF M .abs) := by
  intro pins s σ H xs us Q I r h
  obtain ⟨m, h, vs, rh, rv, q⟩ := h
  unfold bfV at q
  split at q
  all_goals first | (rename_i h0; cases h0; done) | skip
  · obtain ⟨w, rfl, r1⟩ := rv.one_of
    cases (show w = .int _ from r1)
    exact call_abs pins s σ H _ us Q I r ⟨_, rfl, q.at rh rfl⟩
  · exact q.elim
end
end Py

set_option Elab.async false
set_option linter.all false
set_option maxRecDepth 100000
set_option maxHeartbeats 4000000
/-! PySound3: expressions. -/
namespace Py
open PySem PySem.Spec PyProof.Rows L2

/-! ### the match of our syntax with the text's -/
abbrev Sco := List (Str × NameKind)
def glB (sc : Sco) (x : Str) : Bool := (match sc.lookup x with
  | some .globalImplicit => true
  | _ => false) && !(x == ("__debug__" : Str))
def visB (sc : Sco) (x : Str) : Bool := match sc.lookup x with
  | some .local => true
  | some .cell => true
  | some .free => true
  | _ => false
def bopB (o : BO) (p : Operator) : Bool := decide (bopOf o = p)
def bfNm : BF → Str
  | .len => "len" | .list1 => "list" | .tuple1 => "tuple" | .tuple0 => "tuple" | .min2 => "min" | .max2 => "max" | .minL => "min" | .maxL => "max" | .sumL => "sum" | .abs => "abs" | .int1 => "int" | .str1 => "str" | .repr1 => "repr"
  | .sorted1 => "sorted" | .all1 => "all" | .dict1 => "dict" | .dict0 => "dict" | _ => "isinstance"
def isTyB : BF → Bool
  | .isInt => true | .isBool => true | .isStr => true | .isList => true | .isTuple => true | _ => false
def plainT : Expr → Bool
  | .BoolOp .. => false
  | .UnaryOp .Not _ _ => false
  | .Compare .. => false
  | .NamedExpr .. => false
  | .IfExp .. => false
  | _ => true
mutual
def mE (M : Me) (N : List Str) (sc : Sco) : E → Expr → Bool
  | .var i, .Name x _ => decide (N[i]? = some x) && visB sc x && !(x == ("__debug__" : Str)) && !(x == ("__classdict__" : Str))
  | .int i, .Constant (.int j) _ _ => decide (i = j)
  | .str s, .Constant (.str t) _ _ => decide (s = t)
  | .bl b, .Constant (.bool c) _ _ => decide (b = c)
  | .non, .Constant .none _ _ => true
  | .glob g, .Name x _ => decide (M.nm g = x) && glB sc x
  | .bin o a b, .BinOp x p y _ => bopB o p && mE M N sc a x && mE M N sc b y
  | .neg a, .UnaryOp .USub x _ => mE M N sc a x
  | .nt a, .UnaryOp .Not x _ => mE M N sc a x
  | .and a b, .BoolOp .And (x :: y :: r) p => mE M N sc a x && (match r with
    | [] => mE M N sc b y
    | _ => mE M N sc b (.BoolOp .And (y :: r) p))
  | .or a b, .BoolOp .Or (x :: y :: r) p => mE M N sc a x && (match r with
    | [] => mE M N sc b y
    | _ => mE M N sc b (.BoolOp .Or (y :: r) p))
  | .cmp o a b, .Compare x [p] [y] _ => decide (copOf o = p) && !behindInMarks p y && mE M N sc a x && mE M N sc b y
  | .chain o o' a b c, .Compare x [p, p'] [y, z] _ => decide (copOf o = p) && decide (copOf o' = p') && !lastMarks [p, p'] [y, z] && mE M N sc a x && mE M N sc b y && mE M N sc c z
  | .ite c a b, .IfExp x y z _ => mC M N sc c x && mE M N sc a y && mE M N sc b z
  | .tup es, .Tuple xs _ _ => mEs M N sc es xs
  | .lst es, .List xs _ => mEs M N sc es xs
  | .idx a b, .Subscript x y _ => mE M N sc a x && mE M N sc b y
  | .slc a lo hi, .Subscript x (.Slice l u none _) _ => mE M N sc a x && mO M N sc lo l && mO M N sc hi u
  | .call f es, .Call (.Name x _) xs [] _ => (M.gf f && (M.G.fn f).isSome) && (decide (M.nm f = x) && (glB sc x && mEs M N sc es xs))
  | .isi f a, .Call (.Name x _) [y, .Name t _] [] _ => (isTyB f && glB sc x) && ((decide (bfNm f = x) && decide (t = Str.ofString (tyOf f))) && (glB sc t && mE M N sc a y))
  | .bf f (.cons e r), .Call (.Name x _) xs [] _ => (!isTyB f && glB sc x) && (decide (bfNm f = x) && mEs M N sc (.cons e r) xs)
  | _, _ => false
def mEs (M : Me) (N : List Str) (sc : Sco) : Es → List Expr → Bool
  | .nil, [] => true
  | .cons e es, x :: xs => mE M N sc e x && mEs M N sc es xs
  | _, _ => false
def mO (M : Me) (N : List Str) (sc : Sco) : OE → Option Expr → Bool
  | .no, none => true
  | .so e, some x => mE M N sc e x
  | _, _ => false
def mC (M : Me) (N : List Str) (sc : Sco) : C → Expr → Bool
  | .v e, x => mE M N sc e x && plainT x
  | .cmp o a b, .Compare x [p] [y] _ => decide (copOf o = p) && !behindInMarks p y && mE M N sc a x && mE M N sc b y
  | .chain o o' a b c, .Compare x [p, p'] [y, z] _ => decide (copOf o = p) && decide (copOf o' = p') && !lastMarks [p, p'] [y, z] && mE M N sc a x && mE M N sc b y && mE M N sc c z
  | .nt a, .UnaryOp .Not x _ => mC M N sc a x
  | .and a b, .BoolOp .And (x :: y :: r) p => mC M N sc a x && (match r with
    | [] => mC M N sc b y
    | _ => mC M N sc b (.BoolOp .And (y :: r) p))
  | .or a b, .BoolOp .Or (x :: y :: r) p => mC M N sc a x && (match r with
    | [] => mC M N sc b y
    | _ => mC M N sc b (.BoolOp .Or (y :: r) p))
  | _, _ => false
end

/-! ### the context -/
def LE (M : Mo) (E : XK) (m : List Addr) (H : Hp) : KX := fun x h' => ∀ (m' : List Addr) (H' : Hp) (cls : Value) (d : Option Addr), Ex m m' → Kp M.K H H' → RH M H' m' h' → RX M H' m' x cls d → E cls d H'
/-- a def's promise, by our reading of its call -/
def spF (M : Mo) (k : Nat) (f : Nat) (np : Nat) : Sp := fun vs H Q E => ∃ m h args, RH M H m h ∧ RVs M.K H m args vs ∧ args.length = np ∧ callS M.G k (.fn f) args h (LQ M m H Q) (LE M E m H)
def bltNames : List Str := ["len", "list", "tuple", "isinstance", "int", "str", "bool", "min", "max", "sum", "abs", "repr", "sorted", "all", "dict", "range", "enumerate", "zip", "reversed", "set"]
structure Glo (M : Mo) (mg : Str → Option Value) : Prop where
  free : ∀ x ∈ bltNames, mg x = none
  con : ∀ g v, M.G.con g = some v → ∃ u w, mg (M.nm g) = some u ∧ RelV w u ∧ ∀ H m, RV M.K H m v w
/-- the arguments that lack -/
def Dfl (M : Mo) (fd : FuncData) (ps : List Str) (d : FD) : Prop := ∀ n, n ≤ d.np → (fill d.dfl (List.replicate n PV.non) d.np).length = d.np →
  ∃ dvs ds, Vals dvs ds ∧ Binds M.K fd ps ds ∧ ∀ H m, RVs M.K H m (d.dfl.drop (d.dfl.length - (d.np - n))) dvs
/-- a def at a level -/
structure FnC (M : Mo) (P : Program) (w : World) (mg : Str → Option Value) (base : Heap) (k : Nat) (f : Nat) (d : FD) (a : Addr) : Prop where
  ex : ∃ fd ps, FnOk P w M.K mg base (L2.CX P w) k a fd ps (spF M k f d.np) ∧ PySem.W.keepIn M.K (.ref a) = true ∧ Dfl M fd ps d
structure Good (M : Mo) (X : Cx) (N : List Str) (sc : Sco) (W : WX) (k : Nat) : Prop where
  hN : X.N = N
  nd : N.Nodup
  hK : X.K = M.K
  sc : X.env.scope.names = sc
  calm : X.calm = true
  tk : Takes X W
  room : Room k X.A
  glo : Glo M X.mg
  fns : ∀ f d, M.G.fn f = some d → FnC M X.prog X.w X.mg X.base k f d (M.fa f)
  fng : ∀ f, M.gf f = true → X.mg (M.nm f) = some (.ref (M.fa f))

/-! ### readings -/
abbrev De := KX → Loc → PH → KQ → Prop
def tE (M : Mo) (W : WX) (d : De) : TE := fun σ H Q => ∃ m l h, RH M H m h ∧ RL M.K H m l σ ∧ d (LX M W σ m H) l h (LQ M m H Q)
abbrev DA := KX → Loc → PH → (List PV → PH → Prop) → Prop
def tA (M : Mo) (W : WX) (d : DA) : TA := fun σ H Q => ∃ m l h, RH M H m h ∧ RL M.K H m l σ ∧ d (LX M W σ m H) l h (LA M m H Q)
abbrev DT := KX → Loc → PH → (Bool → PH → Prop) → Prop
def tT (M : Mo) (W : WX) (d : DT) : TT := fun σ H Q => ∃ m l h, RH M H m h ∧ RL M.K H m l σ ∧ d (LX M W σ m H) l h (LB M m H Q)
abbrev DO := KX → Loc → PH → (Option Int → PH → Prop) → Prop
def tOp (M : Mo) (W : WX) (d : DO) : TO := fun σ H Q => ∃ m l h, RH M H m h ∧ RL M.K H m l σ ∧ d (LX M W σ m H) l h (LB M m H Q)
theorem _root_.L2.PE.wk {X : Cx} {e : Expr} {t t' : TE} (p : PE X e t) (h : ∀ σ H Q, t' σ H Q → t σ H Q) : PE X e t' := ⟨fun pins s σ H Q I q => p.run pins s σ H Q I (h _ _ _ q)⟩
theorem _root_.L2.PT.wk {X : Cx} {e : Expr} {t t' : TT} (p : PT X e t) (h : ∀ σ H Q, t' σ H Q → t σ H Q) : PT X e t' := ⟨fun pins s σ H Q I q => p.run pins s σ H Q I (h _ _ _ q)⟩
theorem _root_.L2.PW.wk {X : Cx} {e : Expr} {t t' : TT} (p : PW X e t) (h : ∀ σ H Q, t' σ H Q → t σ H Q) : PW X e t' := ⟨fun wh pins s σ H Q I q => p.run wh pins s σ H Q I (h _ _ _ q)⟩
theorem _root_.L2.PA.wk {X : Cx} {e : List Expr} {t t' : TA} (p : PA X e t) (h : ∀ σ H Q, t' σ H Q → t σ H Q) : PA X e t' := ⟨fun pos pins s σ H Q I q => p.run pos pins s σ H Q I (h _ _ _ q)⟩
theorem _root_.L2.PO.wk {X : Cx} {e : Option Expr} {t t' : TO} (p : L2.PO X e t) (h : ∀ σ H Q, t' σ H Q → t σ H Q) : L2.PO X e t' := ⟨fun pins s σ H Q I q => p.run pins s σ H Q I (h _ _ _ q)⟩
section
variable {M : Mo} {W : WX} {σ : L2.St} {m : List Addr} {H : Hp} {l : Loc} {h : PH} {k : Nat}
theorem csle (M : Mo) (k : Nat) : CSle (callS M.G k) (callS M.G k) := callS_le k k (Nat.le_refl k)
theorem tE_in {e : E} {X0 : KX} {K0 : KQ} {Q' : VK} (rh : RH M H m h) (rl : RL M.K H m l σ) (hX : ∀ x h, X0 x h → LX M W σ m H x h) (q : evE M.G (callS M.G k) X0 e l h K0)
    (c : ∀ (m1 : List Addr) (H1 : Hp) (v : PV) (w : V) (h1 : PH), Ex m m1 → Kp M.K H H1 → RH M H1 m1 h1 → RL M.K H1 m1 l σ → RV M.K H1 m1 v w → K0 v h1 → Q' w H1) : tE M W (fun X => evE M.G (callS M.G k) X e) σ H Q' :=
  ⟨m, l, h, rh, rl, evE_mono (csle M k) hX e l h _ _ (fun v h1 q1 m1 H1 w e1 k1 rh1 rv1 => c m1 H1 v w h1 e1 k1 rh1 (rl.mono k1 e1) rv1 q1) q⟩
theorem tA_in {e : Es} {X0 : KX} {K0 : List PV → PH → Prop} {Q' : List V → Hp → Prop} (rh : RH M H m h) (rl : RL M.K H m l σ) (hX : ∀ x h, X0 x h → LX M W σ m H x h) (q : evEs M.G (callS M.G k) X0 e l h K0)
    (c : ∀ (m1 : List Addr) (H1 : Hp) (v : List PV) (w : List V) (h1 : PH), Ex m m1 → Kp M.K H H1 → RH M H1 m1 h1 → RL M.K H1 m1 l σ → RVs M.K H1 m1 v w → K0 v h1 → Q' w H1) : tA M W (fun X => evEs M.G (callS M.G k) X e) σ H Q' :=
  ⟨m, l, h, rh, rl, evEs_mono (csle M k) hX e l h _ _ (fun v h1 q1 m1 H1 w e1 k1 rh1 rv1 => c m1 H1 v w h1 e1 k1 rh1 (rl.mono k1 e1) rv1 q1) q⟩
theorem tT_in {e : C} {X0 : KX} {K0 : Bool → PH → Prop} {Q' : Bool → Hp → Prop} (rh : RH M H m h) (rl : RL M.K H m l σ) (hX : ∀ x h, X0 x h → LX M W σ m H x h) (q : evT M.G (callS M.G k) X0 e l h K0)
    (c : ∀ (m1 : List Addr) (H1 : Hp) (b : Bool) (h1 : PH), Ex m m1 → Kp M.K H H1 → RH M H1 m1 h1 → RL M.K H1 m1 l σ → K0 b h1 → Q' b H1) : tT M W (fun X => evT M.G (callS M.G k) X e) σ H Q' :=
  ⟨m, l, h, rh, rl, evT_mono (csle M k) hX e l h _ _ (fun v h1 q1 m1 H1 e1 k1 rh1 => c m1 H1 v h1 e1 k1 rh1 (rl.mono k1 e1) q1) q⟩
theorem tO_in {e : OE} {X0 : KX} {K0 : Option Int → PH → Prop} {Q' : Option Int → Hp → Prop} (rh : RH M H m h) (rl : RL M.K H m l σ) (hX : ∀ x h, X0 x h → LX M W σ m H x h) (q : evO M.G (callS M.G k) X0 e l h K0)
    (c : ∀ (m1 : List Addr) (H1 : Hp) (b : Option Int) (h1 : PH), Ex m m1 → Kp M.K H H1 → RH M H1 m1 h1 → RL M.K H1 m1 l σ → K0 b h1 → Q' b H1) : tOp M W (fun X => evO M.G (callS M.G k) X e) σ H Q' :=
  ⟨m, l, h, rh, rl, evO_mono (csle M k) hX e l h _ _ (fun v h1 q1 m1 H1 e1 k1 rh1 => c m1 H1 v h1 e1 k1 rh1 (rl.mono k1 e1) q1) q⟩
end
/-- no star -/
theorem star_of {M : Mo} {N : List Str} {sc : Sco} {e : E} {x : Expr} (h : mE M.toMe N sc e x = true) (env : Env) (r : List Expr) : starEach (x :: r) env = (false, eval x env) :: starEach r env := by
  cases x <;> first | rfl | (cases e <;> first | exact absurd h Bool.false_ne_true | (rename_i args _ _; cases args <;> exact absurd h Bool.false_ne_true) | (rename_i args _ _ _ _; cases args <;> exact absurd h Bool.false_ne_true) | simp [mE] at h)
theorem plainIx_of {M : Mo} {N : List Str} {sc : Sco} {e : E} {x : Expr} (h : mE M.toMe N sc e x = true) : PlainIx x := by
  cases x <;> first | (intro o i; rfl) | (cases e <;> first | exact absurd h Bool.false_ne_true | simp [mE] at h)
theorem star_plain {M : Mo} {N : List Str} {sc : Sco} (env : Env) (pos : Pos) : ∀ {es : Es} {xs : List Expr}, mEs M.toMe N sc es xs = true → (backTo pos (starEach xs env)).any (·.1) = false
  | .nil, [], _ => rfl
  | .nil, _ :: _, h => absurd h Bool.false_ne_true
  | .cons _ _, [], h => absurd h Bool.false_ne_true
  | .cons e es, x :: xs, h => by
    obtain ⟨h1, h2⟩ := Bool.and_eq_true_iff.mp (show (mE M.toMe N sc e x && mEs M.toMe N sc es xs) = true from h)
    rw [star_of h1]
    show (false || (backTo pos (starEach xs env)).any (·.1)) = false
    rw [Bool.false_or]
    exact star_plain env pos h2

theorem star_plain2 {M : Mo} {N : List Str} {sc : Sco} (env : Env) (pos : Pos) {es : Es} {x : Expr} {xs : List Expr} (h : mEs M.toMe N sc es (x :: xs) = true) : starEach (x :: xs) env = (false, eval x env) :: starEach xs env ∧ (backTo pos (starEach xs env)).any (·.1) = false := by
  cases es with
  | nil => exact absurd h Bool.false_ne_true
  | cons e es =>
    obtain ⟨h1, h2⟩ := Bool.and_eq_true_iff.mp (show (mE M.toMe N sc e x && mEs M.toMe N sc es xs) = true from h)
    exact ⟨star_of h1 env xs, star_plain env pos h2⟩
/-- f(..) with what lacks -/
theorem pe_callG {M : Mo} {X : Cx} {N : List Str} {sc : Sco} {W : WX} {k f : Nat} {d : FD} {x : Str} {p pos : Pos} {es : Es} {xs : List Expr} {t : TA} (g : Good M X N sc W k) (hf : M.G.fn f = some d) (hx : x = M.nm f) (hgf : M.gf f = true) (hg : Gl X x) (hdb : (x == ("__debug__" : Str)) = false)
    (hm : mEs M.toMe N sc es xs = true) (ha : PA X xs t) (h0 : xs = [] → ∀ σ H Q, t σ H Q → Q [] H) :
    PE X (.Call (.Name x p) xs [] pos) (fun σ H Q => t σ H fun vs H1 => vs.length ≤ d.np ∧ (fill d.dfl (List.replicate vs.length PV.non) d.np).length = d.np ∧
      ∀ dvs, (∀ H m, RVs M.K H m (d.dfl.drop (d.dfl.length - (d.np - vs.length))) dvs) → spF M k f d.np (vs ++ dvs) H1 Q (WE W σ)) := by
  obtain ⟨fd, ps, F, kp, D⟩ := (g.fns f d hf).ex
  have hmg : X.mg x = some (.ref (M.fa f)) := by rw [hx]; exact g.fng f hgf
  have F' : FnOk X.prog X.w X.K X.mg X.base (L2.CX X.prog X.w) k (M.fa f) fd ps (spF M k f d.np) := by rw [g.hK]; exact F
  have kp' : PySem.W.keepIn X.K (.ref (M.fa f)) = true := by rw [g.hK]; exact kp
  refine ⟨fun pins s σ H Q I h => ?_⟩
  refine wpAny_Call_Name_kw (ld_glob I hg hmg ?_ hdb)
  cases xs with
  | nil =>
    have fin : ∀ (vs : List V) (us : List Value) (H1 : Hp) (s1 : Shared), L2.Inv X pins σ H1 s1 → Vals vs us → (vs.length ≤ d.np ∧ (fill d.dfl (List.replicate vs.length PV.non) d.np).length = d.np ∧
      ∀ dvs, (∀ H m, RVs M.K H m (d.dfl.drop (d.dfl.length - (d.np - vs.length))) dvs) → spF M k f d.np (vs ++ dvs) H1 Q (WE W σ)) → wpAny (model X.prog X.w) X.A (call (.ref (M.fa f)) us) (EP X pins σ Q) X.xe s1 := by
      intro vs us H1 s1 I1 r ⟨q1, q2, q⟩
      obtain ⟨dvs, ds, hd, hb, hr⟩ := D vs.length q1 q2
      exact run_fnSD F' g.room (by rw [g.hK]; exact hb) hd (passAt g.tk σ) I1 r (q dvs hr)
    exact PySem.W.callWith_K0 I.kIn kp' (fin [] [] H s I .nil (h0 rfl _ _ _ h))
  | cons y ys =>
    obtain ⟨h1, h2⟩ := star_plain2 X.env pos hm
    refine PySem.W.callWith_K (h₀ := X.base) I.ok.mod.kin kp' (thn (ha.run pos pins s σ H _ I h) fun us s1 ⟨vs, H1, I1, r, q⟩ => ⟨I1.kIn, ?_⟩) h1 h2
    obtain ⟨q1, q2, q⟩ := q
    obtain ⟨dvs, ds, hd, hb, hr⟩ := D vs.length q1 q2
    exact run_fnSD F' g.room (by rw [g.hK]; exact hb) hd (passAt g.tk σ) I1 r (q dvs hr)

theorem gl_of {M : Mo} {X : Cx} {N : List Str} {sc : Sco} {W : WX} {k : Nat} (g : Good M X N sc W k) {x : Str} (h : glB sc x = true) : Gl X x ∧ (x == ("__debug__" : Str)) = false := by
  obtain ⟨h1, h2⟩ := Bool.and_eq_true_iff.mp h
  refine ⟨?_, by simpa using h2⟩
  show X.env.scope.names.lookup x = some .globalImplicit
  rw [g.sc]
  split at h1
  · assumption
  · cases h1
theorem vis_of {M : Mo} {X : Cx} {N : List Str} {sc : Sco} {W : WX} {k : Nat} (g : Good M X N sc W k) {x : Str} (h : visB sc x = true) : Vis X.env.scope x := by
  unfold visB at h
  unfold Vis
  rw [g.sc]
  split at h
  · rename_i e; exact .inl e
  · rename_i e; exact .inr (.inl e)
  · rename_i e; exact .inr (.inr e)
  · cases h
theorem isTrue_of {M : Mo} {N : List Str} {sc : Sco} {e : E} {x : Expr} {env : Env} (h : mC M.toMe N sc (.v e) x = true) : ∀ whole, isTrue x env whole = (do let v ← whole; standAt x.pos; holding [v] (truthy v)) := by
  obtain ⟨h1, h2⟩ := Bool.and_eq_true_iff.mp (show (mE M.toMe N sc e x && plainT x) = true from h)
  cases x with
  | UnaryOp op a p => cases op <;> first | (intro _; rfl) | exact absurd h2 Bool.false_ne_true
  | _ => first | (intro _; rfl) | exact absurd h2 Bool.false_ne_true
theorem ba {a b : Bool} (h : (a && b) = true) : a = true ∧ b = true := Bool.and_eq_true_iff.mp h
theorem nb {a : Bool} (h : (!a) = true) : a = false := by simpa using h
section
variable {M : Mo}
theorem truV_of {H : Hp} {m : List Addr} {h : PH} {v : PV} {w : V} {b : Bool} (r : RH M H m h) (rv : RV M.K H m v w) (e : truV h v = some b) : TruV M.K w H b := by
  cases v with
  | non => cases (show w = .non from rv); cases e; rfl
  | bl c => cases (show w = .bl c from rv); cases e; rfl
  | int i => cases (show w = .int i from rv); cases e; rfl
  | str s =>
    cases (show w = .str s from rv)
    unfold truV at e
    dsimp only at e
    split at e
    · rename_i hl; cases e; exact ⟨hl, rfl⟩
    · cases e
  | tup xs =>
    obtain ⟨p, vs, rfl, e1, e2⟩ := rv
    cases e
    refine .inr (.inl ⟨vs, e1, ?_⟩)
    have := e2.len
    cases xs <;> cases vs <;> simp_all
  | ref a =>
    obtain ⟨p, e1, rfl⟩ := rv
    unfold truV at e
    dsimp only at e
    have emp : ∀ {xs : List PV} {vs : List V}, RVs M.K H m xs vs → (!xs.isEmpty) = !vs.isEmpty := fun {xs vs} z => by
      have := z.len
      cases xs <;> cases vs <;> simp_all
    split at e
    · rename_i xs e2
      cases e
      obtain ⟨vs, e3, e4⟩ := r.obj _ _ _ e2 e1
      exact .inl ⟨vs, .inl (.inl e3), emp e4⟩
    · rename_i xs e2
      cases e
      obtain ⟨vs, e3, e4⟩ := r.obj _ _ _ e2 e1
      refine .inl ⟨vs, ?_, emp e4⟩
      rcases e3 with ⟨o, e3⟩ | e3
      · exact .inl (.inr ⟨o, e3⟩)
      · exact .inr e3
    · rename_i xs e2
      cases e
      obtain ⟨vs, e3, e4⟩ := r.obj _ _ _ e2 e1
      refine .inr (.inr ⟨vs, e3, ?_⟩)
      cases xs with
      | nil => cases (show vs = [] from e4); rfl
      | cons z zs => obtain ⟨x, y⟩ := z; obtain ⟨a, b, c, rfl, _⟩ := e4; rfl
    · cases e
end

section
variable {M : Mo} {k : Nat}
theorem bf_in (f : BF) (n : isTyB f = false) : bfNm f ∈ bltNames := by cases f <;> first | (unfold bltNames bfNm; simp; done) | (exact absurd n (by decide))
/-- the built-in function by its name -/
theorem sBf {X : Cx} {N : List Str} {sc : Sco} {W : WX} (g : Good M X N sc W k) (f : BF) (n : isTyB f = false) {x : Str} (hx : bfNm f = x) (hg : glB sc x = true) {e : E} {es : Es} {y : Expr} {ys : List Expr} {p pos : Pos} {t : TA}
    (hm : mEs M.toMe N sc (.cons e es) (y :: ys) = true) (ha : PA X (y :: ys) t) : PE X (.Call (.Name x p) (y :: ys) [] pos) (tCB (rF M f) t) := by
  obtain ⟨h1, h2⟩ := star_plain2 X.env pos hm
  obtain ⟨g1, g2⟩ := gl_of g hg
  have fr : X.mg x = none := by rw [← hx]; exact g.glo.free _ (bf_in f n)
  have hnn : x ≠ "__name__" := by rw [← hx]; cases f <;> decide +kernel
  have never : ∀ (v : Value), (∀ ws H Q, ¬ rF M f ws H Q) → CallR X v (rF M f) := fun v hn pins s σ H xs us Q I r q => (hn _ _ _ q).elim
  have no : (∀ vs h Q, ¬ bfV f vs h Q) → ∀ ws H Q, ¬ rF M f ws H Q := fun hn ws H Q ⟨m, h, vs, _, _, q⟩ => hn _ _ _ q
  subst hx
  cases f with
  | len => exact pe_callB (sLen g.hK) g1 fr PySem.boot_len ha hnn g2 h1 h2
  | list1 => exact pe_callTy (sList1 g.hK) g1 fr (by decide +kernel) ha hnn g2 h1 h2
  | tuple1 => exact pe_callTy (sTuple1 g.hK) g1 fr (by decide +kernel) ha hnn g2 h1 h2
  | min2 => exact pe_callB (sMin2 g.calm) g1 fr (by decide +kernel) ha hnn g2 h1 h2
  | max2 => exact pe_callB (sMax2 g.calm) g1 fr (by decide +kernel) ha hnn g2 h1 h2
  | abs => exact pe_callB sAbs g1 fr (by decide +kernel) ha hnn g2 h1 h2
  | isInt => exact absurd n (by decide)
  | isBool => exact absurd n (by decide)
  | isStr => exact absurd n (by decide)
  | isList => exact absurd n (by decide)
  | isTuple => exact absurd n (by decide)
  | tuple0 => exact pe_callTy (T := "tuple") (never _ (no fun vs h Q q => by cases q)) g1 fr (by decide +kernel) ha hnn g2 h1 h2
  | int1 => exact pe_callTy (T := "int") (never _ (no fun vs h Q q => by cases q)) g1 fr (by decide +kernel) ha hnn g2 h1 h2
  | str1 => exact pe_callTy (T := "str") (never _ (no fun vs h Q q => by cases q)) g1 fr (by decide +kernel) ha hnn g2 h1 h2
  | dict1 => exact pe_callTy (T := "dict") (never _ (no fun vs h Q q => by cases q)) g1 fr (by decide +kernel) ha hnn g2 h1 h2
  | dict0 => exact pe_callTy (T := "dict") (never _ (no fun vs h Q q => by cases q)) g1 fr (by decide +kernel) ha hnn g2 h1 h2
  | minL => exact pe_callB (id := "min") (never _ (no fun vs h Q q => by cases q)) g1 fr (by decide +kernel) ha hnn g2 h1 h2
  | maxL => exact pe_callB (id := "max") (never _ (no fun vs h Q q => by cases q)) g1 fr (by decide +kernel) ha hnn g2 h1 h2
  | sumL => exact pe_callB (id := "sum") (never _ (no fun vs h Q q => by cases q)) g1 fr (by decide +kernel) ha hnn g2 h1 h2
  | repr1 => exact pe_callB (id := "repr") (never _ (no fun vs h Q q => by cases q)) g1 fr (by decide +kernel) ha hnn g2 h1 h2
  | sorted1 => exact pe_callB (id := "sorted") (never _ (no fun vs h Q q => by cases q)) g1 fr (by decide +kernel) ha hnn g2 h1 h2
  | all1 => exact pe_callB (id := "all") (never _ (no fun vs h Q q => by cases q)) g1 fr (by decide +kernel) ha hnn g2 h1 h2
theorem call_sp {f : Nat} {d : FD} {m : List Addr} {H : Hp} {h : PH} {args : List PV} {vs : List V} {Q : VK} {E : XK} (hf : M.G.fn f = some d) (rh : RH M H m h) (rv : RVs M.K H m args vs) (q : callS M.G k (.fn f) args h (LQ M m H Q) (LE M E m H)) :
    vs.length ≤ d.np ∧ (fill d.dfl (List.replicate vs.length PV.non) d.np).length = d.np ∧ ∀ dvs, (∀ H m, RVs M.K H m (d.dfl.drop (d.dfl.length - (d.np - vs.length))) dvs) → spF M k f d.np (vs ++ dvs) H Q E := by
  cases k with
  | zero => exact (show False from q).elim
  | succ k =>
    obtain ⟨d', hf', l1, l2, q⟩ := q
    rw [hf] at hf'; cases hf'
    have el := rv.len
    refine ⟨by rw [← el]; exact l2, by rw [← el]; unfold fill at l1 ⊢; simpa using l1, fun dvs hd => ⟨m, h, fill d.dfl args d.np, rh, ?_, l1, ?_⟩⟩
    · unfold fill
      refine rv.app ?_
      rw [el]
      exact hd H m
    · have e0 : fill d.dfl (fill d.dfl args d.np) d.np = fill d.dfl args d.np := by
        have z : d.np - (fill d.dfl args d.np).length = 0 := by omega
        show fill d.dfl args d.np ++ d.dfl.drop (d.dfl.length - (d.np - (fill d.dfl args d.np).length)) = _
        rw [z]; simp
      exact ⟨d, hf, by rw [e0]; exact l1, Nat.le_of_eq l1, by rw [e0]; exact q⟩
/-- isinstance(x, T) -/
theorem sIsT {X : Cx} {N : List Str} {sc : Sco} {W : WX} (g : Good M X N sc W k) {f : BF} (n : isTyB f = true) {x t : Str} (hx : bfNm f = x) (ht : t = Str.ofString (tyOf f)) (hg : glB sc x = true) (hgt : glB sc t = true) {a : E} {y : Expr} {p pos tp : Pos} (hm : mE M.toMe N sc a y = true)
    (ha : PE X y (tE M W fun Y => evE M.G (callS M.G k) Y a)) : PE X (.Call (.Name x p) [y, .Name t tp] [] pos) (tE M W fun Y => evE M.G (callS M.G k) Y (.isi f a)) := by
  obtain ⟨g1, g2⟩ := gl_of g hg
  obtain ⟨t1, t2⟩ := gl_of g hgt
  have hT : tyOf f = "int" ∨ tyOf f = "bool" ∨ tyOf f = "str" ∨ tyOf f = "list" ∨ tyOf f = "tuple" := by cases f <;> first | exact absurd n (by decide) | (unfold tyOf; simp)
  have fx : x = "isinstance" := by rw [← hx]; cases f <;> first | exact absurd n (by decide) | rfl
  have ft : bootBuiltins t = some (.type (tyOf f)) := by rw [ht]; cases f <;> first | exact absurd n (by decide) | (unfold tyOf; decide +kernel)
  have fm : X.mg t = none := g.glo.free t (by rw [ht]; cases f <;> first | exact absurd n (by decide) | (unfold tyOf bltNames; simp))
  have htn : t ≠ "__name__" := by rw [ht]; cases f <;> first | exact absurd n (by decide) | (unfold tyOf; decide +kernel)
  subst fx
  have pt : PE X (.Name t tp) (tC (.ty (tyOf f))) := pe_bltn t1 fm ft rfl htn t2
  have fi : X.mg "isinstance" = none := g.glo.free _ (by unfold bltNames; simp)
  refine (pe_callB (sIsi (M := M) g.hK hT) g1 fi (by decide +kernel) (pa_cons ha (pa_cons pt pa_nil rfl) (star_of hm X.env _)) (by decide +kernel) g2 (star_of hm X.env _) rfl).wk fun σ H Q q => ?_
  obtain ⟨m, l, h, rh, rl, q⟩ := q
  refine tE_in rh rl (fun _ _ z => z) q fun m1 H1 v w h1 e1 k1 rh1 rl1 rv1 q1 => ?_
  obtain ⟨ty, e, q2⟩ := q1
  exact ⟨m1, h1, v, w, ty, rh1, rfl, rv1, e, (LQ.mono e1 k1 _ _ q2).at rh1 rfl⟩
theorem fill_len {dfl : List PV} {vs : List PV} {n : Nat} : (fill dfl vs n).length = (fill dfl (List.replicate vs.length PV.non) n).length := by
  unfold fill; simp
mutual
theorem sE : ∀ (e : E) (X : Cx) (N : List Str) (sc : Sco) (W : WX) (x : Expr), Good M X N sc W k → mE M.toMe N sc e x = true → PE X x (tE M W fun Y => evE M.G (callS M.G k) Y e)
  | .var i, X, N, sc, W, x, g, hm => by
    cases x <;> first | exact absurd hm Bool.false_ne_true | skip
    rename_i id pos
    obtain ⟨h123, h4⟩ := ba hm
    obtain ⟨h12, h3⟩ := ba h123
    obtain ⟨h1, h2⟩ := ba h12
    refine (pe_var (i := i) (by rw [g.hN]; exact of_decide_eq_true h1) (vis_of g h2) (nb h3) (nb h4)).wk fun σ H Q q => ?_
    obtain ⟨m, l, h, rh, rl, v, e, q⟩ := q
    obtain ⟨w, e2, rv⟩ := rl.2 i v e
    exact ⟨w, e2, q.at rh rv⟩
  | .int i, X, N, sc, W, x, g, hm => by
    cases x <;> first | exact absurd hm Bool.false_ne_true | skip
    rename_i c j pos
    cases c <;> first | exact absurd hm Bool.false_ne_true | skip
    have e := of_decide_eq_true hm
    subst e
    exact pe_int.wk fun σ H Q ⟨m, l, h, rh, rl, q⟩ => LQ.at q rh rfl
  | .str i, X, N, sc, W, x, g, hm => by
    cases x <;> first | exact absurd hm Bool.false_ne_true | skip
    rename_i c j pos
    cases c <;> first | exact absurd hm Bool.false_ne_true | skip
    have e := of_decide_eq_true hm
    subst e
    exact pe_str.wk fun σ H Q ⟨m, l, h, rh, rl, q⟩ => LQ.at q rh rfl
  | .bl i, X, N, sc, W, x, g, hm => by
    cases x <;> first | exact absurd hm Bool.false_ne_true | skip
    rename_i c j pos
    cases c <;> first | exact absurd hm Bool.false_ne_true | skip
    have e := of_decide_eq_true hm
    subst e
    exact pe_bl.wk fun σ H Q ⟨m, l, h, rh, rl, q⟩ => LQ.at q rh rfl
  | .non, X, N, sc, W, x, g, hm => by
    cases x <;> first | exact absurd hm Bool.false_ne_true | skip
    rename_i c j pos
    cases c <;> first | exact absurd hm Bool.false_ne_true | skip
    exact pe_non.wk fun σ H Q ⟨m, l, h, rh, rl, q⟩ => LQ.at q rh rfl
  | .glob i, X, N, sc, W, x, g, hm => by
    cases x <;> first | exact absurd hm Bool.false_ne_true | skip
    rename_i id pos
    obtain ⟨h1, h2⟩ := ba hm
    have e := of_decide_eq_true h1
    subst e
    obtain ⟨g1, g2⟩ := gl_of g h2
    cases hc : M.G.con i with
    | none =>
      refine ⟨fun pins s σ H Q I q => ?_⟩
      obtain ⟨m, l, h, rh, rl, v, e, q⟩ := q
      rw [hc] at e; cases e
    | some v =>
      obtain ⟨u, w, hmg, ru, rv⟩ := g.glo.con i v hc
      refine (pe_glob g1 hmg ru g2).wk fun σ H Q q => ?_
      obtain ⟨m, l, h, rh, rl, v', e, q⟩ := q
      rw [hc] at e; cases e
      exact q.at rh (rv H m)
  | .bin o a b, X, N, sc, W, x, g, hm => by
    cases x <;> first | exact absurd hm Bool.false_ne_true | skip
    obtain ⟨h12, h3⟩ := ba hm
    obtain ⟨h1, h2⟩ := ba h12
    have e := of_decide_eq_true h1
    subst e
    refine (pe_op (sB g.hK o) (sE a X N sc W _ g h2) (sE b X N sc W _ g h3)).wk fun σ H Q q => ?_
    obtain ⟨m, l, h, rh, rl, q⟩ := q
    refine tE_in rh rl (fun _ _ z => z) q fun m1 H1 v w h1 e1 k1 rh1 rl1 rv1 q1 => ?_
    refine tE_in rh1 rl1 (LX.mono e1 k1) q1 fun m2 H2 u w2 h2 e2 k2 rh2 rl2 rv2 q2 => ?_
    exact ⟨m2, h2, v, u, rh2, rv1.mono k2 e2, rv2, binV_mono (LQ.mono (e1.trans e2) (k1.trans k2)) q2⟩
  | .neg a, X, N, sc, W, x, g, hm => by
    cases x <;> first | exact absurd hm Bool.false_ne_true | skip
    rename_i op y pos
    cases op <;> first | exact absurd hm Bool.false_ne_true | skip
    refine (pe_un un_neg (sE a X N sc W _ g hm)).wk fun σ H Q q => ?_
    obtain ⟨m, l, h, rh, rl, q⟩ := q
    refine tE_in rh rl (fun _ _ z => z) q fun m1 H1 v w h1 e1 k1 rh1 rl1 rv1 q1 => ?_
    obtain ⟨i, rfl, q1⟩ := q1
    exact ⟨i, rv1, (LQ.mono e1 k1 _ _ q1).at rh1 rfl⟩
  | .nt a, X, N, sc, W, x, g, hm => by
    cases x <;> first | exact absurd hm Bool.false_ne_true | skip
    rename_i op y pos
    cases op <;> first | exact absurd hm Bool.false_ne_true | skip
    refine (pe_not (sE a X N sc W _ g hm)).wk fun σ H Q q => ?_
    obtain ⟨m, l, h, rh, rl, q⟩ := q
    refine tE_in rh rl (fun _ _ z => z) q fun m1 H1 v w h1 e1 k1 rh1 rl1 rv1 q1 => ?_
    obtain ⟨i, rfl, q1⟩ := q1
    exact ⟨i, rv1, (LQ.mono e1 k1 _ _ q1).at rh1 rfl⟩
  | .and a b, X, N, sc, W, x, g, hm => by
    cases x <;> first | exact absurd hm Bool.false_ne_true | skip
    rename_i op xs pos
    cases op <;> first | exact absurd hm Bool.false_ne_true | skip
    match xs, hm with
    | [], hm => exact absurd hm Bool.false_ne_true
    | [_], hm => exact absurd hm Bool.false_ne_true
    | y :: z :: r, hm =>
      obtain ⟨h1, h2⟩ := ba hm
      have hb : PE X (.BoolOp .And (z :: r) pos) (tE M W fun Y => evE M.G (callS M.G k) Y b) := by
        cases r with
        | nil => exact pe_one (sE b X N sc W _ g h2)
        | cons z' r' => exact sE b X N sc W _ g h2
      refine (pe_and (sE a X N sc W _ g h1) hb).wk fun σ H Q q => ?_
      obtain ⟨m, l, h, rh, rl, q⟩ := q
      refine tE_in rh rl (fun _ _ z => z) q fun m1 H1 v w h1 e1 k1 rh1 rl1 rv1 q1 => ?_
      obtain ⟨i, rfl, q1⟩ := q1
      refine ⟨i, rv1, ?_⟩
      cases i with
      | true => exact tE_in rh1 rl1 (LX.mono e1 k1) q1 fun m2 H2 u w2 h2 e2 k2 rh2 rl2 rv2 q2 => (LQ.mono (e1.trans e2) (k1.trans k2) _ _ q2).at rh2 rv2
      | false => exact (LQ.mono e1 k1 _ _ q1).at rh1 rfl
  | .or a b, X, N, sc, W, x, g, hm => by
    cases x <;> first | exact absurd hm Bool.false_ne_true | skip
    rename_i op xs pos
    cases op <;> first | exact absurd hm Bool.false_ne_true | skip
    match xs, hm with
    | [], hm => exact absurd hm Bool.false_ne_true
    | [_], hm => exact absurd hm Bool.false_ne_true
    | y :: z :: r, hm =>
      obtain ⟨h1, h2⟩ := ba hm
      have hb : PE X (.BoolOp .Or (z :: r) pos) (tE M W fun Y => evE M.G (callS M.G k) Y b) := by
        cases r with
        | nil => exact pe_one (sE b X N sc W _ g h2)
        | cons z' r' => exact sE b X N sc W _ g h2
      refine (pe_or (sE a X N sc W _ g h1) hb).wk fun σ H Q q => ?_
      obtain ⟨m, l, h, rh, rl, q⟩ := q
      refine tE_in rh rl (fun _ _ z => z) q fun m1 H1 v w h1 e1 k1 rh1 rl1 rv1 q1 => ?_
      obtain ⟨i, rfl, q1⟩ := q1
      refine ⟨i, rv1, ?_⟩
      cases i with
      | false => exact tE_in rh1 rl1 (LX.mono e1 k1) q1 fun m2 H2 u w2 h2 e2 k2 rh2 rl2 rv2 q2 => (LQ.mono (e1.trans e2) (k1.trans k2) _ _ q2).at rh2 rv2
      | true => exact (LQ.mono e1 k1 _ _ q1).at rh1 rfl
  | .cmp o a b, X, N, sc, W, x, g, hm => by
    cases x <;> first | exact absurd hm Bool.false_ne_true | skip
    rename_i y ops zs pos
    match ops, zs, hm with
    | [], _, hm => exact absurd hm Bool.false_ne_true
    | [_], [], hm => exact absurd hm Bool.false_ne_true
    | [_], _ :: _ :: _, hm => exact absurd hm Bool.false_ne_true
    | _ :: _ :: _, _, hm => exact absurd hm Bool.false_ne_true
    | [p], [z], hm =>
      obtain ⟨h123, h4⟩ := ba hm
      obtain ⟨h12, h3⟩ := ba h123
      obtain ⟨h1, h2⟩ := ba h12
      have e := of_decide_eq_true h1
      subst e
      refine (pe_cmpR (sC g.hK g.room.units o) (sE a X N sc W _ g h3) (sE b X N sc W _ g h4) (nb h2)).wk fun σ H Q q => ?_
      obtain ⟨m, l, h, rh, rl, q⟩ := q
      refine tE_in rh rl (fun _ _ z => z) q fun m1 H1 v w h1 e1 k1 rh1 rl1 rv1 q1 => ?_
      refine tE_in rh1 rl1 (LX.mono e1 k1) q1 fun m2 H2 u w2 h2 e2 k2 rh2 rl2 rv2 q2 => ?_
      refine ⟨m2, h2, v, u, rh2, rv1.mono k2 e2, rv2, cmpV_mono (fun r h3 q3 m3 H3 e3 k3 rh3 => ?_) q2⟩
      exact q3 m3 H3 _ ((e1.trans e2).trans e3) ((k1.trans k2).trans k3) rh3 rfl
  | .chain o o' a b c, X, N, sc, W, x, g, hm => by
    cases x <;> first | exact absurd hm Bool.false_ne_true | skip
    rename_i y ops zs pos
    match ops, zs, hm with
    | [], _, hm => exact absurd hm Bool.false_ne_true
    | [_], _, hm => exact absurd hm Bool.false_ne_true
    | _ :: _ :: _ :: _, _, hm => exact absurd hm Bool.false_ne_true
    | [_, _], [], hm => exact absurd hm Bool.false_ne_true
    | [_, _], [_], hm => exact absurd hm Bool.false_ne_true
    | [_, _], _ :: _ :: _ :: _, hm => exact absurd hm Bool.false_ne_true
    | [p, p'], [z, z'], hm =>
      obtain ⟨h12345, h6⟩ := ba hm
      obtain ⟨h1234, h5⟩ := ba h12345
      obtain ⟨h123, h4⟩ := ba h1234
      obtain ⟨h12, h3⟩ := ba h123
      obtain ⟨h1, h2⟩ := ba h12
      have e := of_decide_eq_true h1
      have e' := of_decide_eq_true h2
      subst e; subst e'
      refine (pe_chain (sC g.hK g.room.units o) (sC g.hK g.room.units o') (sE a X N sc W _ g h4) (sE b X N sc W _ g h5) (sE c X N sc W _ g h6) (nb h3)).wk fun σ H Q q => ?_
      obtain ⟨m, l, h, rh, rl, q⟩ := q
      refine tE_in rh rl (fun _ _ z => z) q fun m1 H1 v w h1 e1 k1 rh1 rl1 rv1 q1 => ?_
      refine tE_in rh1 rl1 (LX.mono e1 k1) q1 fun m2 H2 u w2 h2 e2 k2 rh2 rl2 rv2 q2 => ?_
      refine ⟨m2, h2, v, u, rh2, rv1.mono k2 e2, rv2, cmpV_mono (fun r h3 q3 m3 H3 e3 k3 rh3 => ?_) q2⟩
      refine ⟨r, rfl, ?_⟩
      have e13 := (e1.trans e2).trans e3
      have k13 := (k1.trans k2).trans k3
      cases r with
      | false => exact q3 m3 H3 _ e13 k13 rh3 rfl
      | true =>
        refine tE_in rh3 (rl2.mono k3 e3) (LX.mono e13 k13) q3 fun m4 H4 u4 w4 h4 e4 k4 rh4 rl4 rv4 q4 => ?_
        refine ⟨m4, h4, u, u4, rh4, rv2.mono (k3.trans k4) (e3.trans e4), rv4, cmpV_mono (fun r h5 q5 m5 H5 e5 k5 rh5 => ?_) q4⟩
        exact q5 m5 H5 _ ((e13.trans e4).trans e5) ((k13.trans k4).trans k5) rh5 rfl
  | .ite c a b, X, N, sc, W, x, g, hm => by
    cases x <;> first | exact absurd hm Bool.false_ne_true | skip
    obtain ⟨h12, h3⟩ := ba hm
    obtain ⟨h1, h2⟩ := ba h12
    refine (pe_ifExp (sT c X N sc W _ g h1).1 (sE a X N sc W _ g h2) (sE b X N sc W _ g h3)).wk fun σ H Q q => ?_
    obtain ⟨m, l, h, rh, rl, q⟩ := q
    refine tT_in rh rl (fun _ _ z => z) q fun m1 H1 r h1 e1 k1 rh1 rl1 q1 => ?_
    cases r with
    | true => exact tE_in rh1 rl1 (LX.mono e1 k1) q1 fun m2 H2 u w2 h2 e2 k2 rh2 rl2 rv2 q2 => (LQ.mono (e1.trans e2) (k1.trans k2) _ _ q2).at rh2 rv2
    | false => exact tE_in rh1 rl1 (LX.mono e1 k1) q1 fun m2 H2 u w2 h2 e2 k2 rh2 rl2 rv2 q2 => (LQ.mono (e1.trans e2) (k1.trans k2) _ _ q2).at rh2 rv2
  | .tup es, X, N, sc, W, x, g, hm => by
    cases x <;> first | exact absurd hm Bool.false_ne_true | skip
    refine (pe_tup (sEs es X N sc W _ g hm)).wk fun σ H Q q => ?_
    obtain ⟨m, l, h, rh, rl, q⟩ := q
    refine tA_in rh rl (fun _ _ z => z) q fun m1 H1 v w h1 e1 k1 rh1 rl1 rv1 q1 => ?_
    refine ⟨by rw [← rv1.len]; exact q1.1, fun p hp => ?_⟩
    exact q1.2 m1 (upd H1 p (.tup w)) _ e1 (k1.trans (Kp.upd_new hp)) (rh1.tup hp) ⟨p, w, rfl, .inl (.inl upd_same), rv1.mono (Kp.upd_new hp) (Ex.refl m1) _ _⟩
  | .lst es, X, N, sc, W, x, g, hm => by
    cases x <;> first | exact absurd hm Bool.false_ne_true | skip
    refine (pe_lst (sEs es X N sc W _ g hm)).wk fun σ H Q q => ?_
    obtain ⟨m, l, h, rh, rl, q⟩ := q
    refine tA_in rh rl (fun _ _ z => z) q fun m1 H1 v w h1 e1 k1 rh1 rl1 rv1 q1 => ?_
    refine ⟨by rw [← rv1.len]; exact q1.1, ?_⟩
    exact (LQ.mono e1 k1 _ _ q1.2).new rh1 rfl fun p hp => ⟨w, upd_same, rv1.mono (Kp.upd_new hp) (Ex.app m1 p) _ _⟩
  | .idx a b, X, N, sc, W, x, g, hm => by
    cases x <;> first | exact absurd hm Bool.false_ne_true | skip
    rename_i y z pos
    have hm' : (mE M.toMe N sc a y && mE M.toMe N sc b z) = true := by
      cases z <;> exact hm
    obtain ⟨h1, h2⟩ := ba hm'
    refine (pe_ix (sIx_ g.hK) (sE a X N sc W _ g h1) (sE b X N sc W _ g h2) (plainIx_of h2)).wk fun σ H Q q => ?_
    obtain ⟨m, l, h, rh, rl, q⟩ := q
    refine tE_in rh rl (fun _ _ z => z) q fun m1 H1 v w h1 e1 k1 rh1 rl1 rv1 q1 => ?_
    refine tE_in rh1 rl1 (LX.mono e1 k1) q1 fun m2 H2 u w2 h2 e2 k2 rh2 rl2 rv2 q2 => ?_
    exact ⟨m2, h2, v, u, rh2, rv1.mono k2 e2, rv2, idxV_mono (LQ.mono (e1.trans e2) (k1.trans k2)) q2⟩
  | .slc a lo hi, X, N, sc, W, x, g, hm => by
    cases x <;> first | exact absurd hm Bool.false_ne_true | skip
    rename_i y z pos
    cases z <;> first | exact absurd hm Bool.false_ne_true | skip
    rename_i l u st p2
    cases st <;> first | exact absurd hm Bool.false_ne_true | skip
    obtain ⟨h12, h3⟩ := ba hm
    obtain ⟨h1, h2⟩ := ba h12
    refine (pe_slice (sSl g.hK) (sE a X N sc W _ g h1) (sO lo X N sc W _ g h2) (sO hi X N sc W _ g h3)).wk fun σ H Q q => ?_
    obtain ⟨m, l, h, rh, rl, q⟩ := q
    refine tE_in rh rl (fun _ _ z => z) q fun m1 H1 v w h1 e1 k1 rh1 rl1 rv1 q1 => ?_
    refine tO_in rh1 rl1 (LX.mono e1 k1) q1 fun m2 H2 u h2 e2 k2 rh2 rl2 q2 => ?_
    refine tO_in rh2 rl2 (LX.mono (e1.trans e2) (k1.trans k2)) q2 fun m3 H3 u3 h3 e3 k3 rh3 rl3 q3 => ?_
    exact ⟨m3, h3, v, rh3, rv1.mono (k2.trans k3) (e2.trans e3), slcV_mono (LQ.mono ((e1.trans e2).trans e3) ((k1.trans k2).trans k3)) q3⟩
  | .call f es, X, N, sc, W, x, g, hm => by
    cases x <;> first | exact absurd hm Bool.false_ne_true | skip
    rename_i fn xs kw pos
    cases fn <;> first | exact absurd hm Bool.false_ne_true | skip
    rename_i id p
    cases kw <;> first | exact absurd hm Bool.false_ne_true | skip
    obtain ⟨h01, h234⟩ := ba hm
    obtain ⟨h1, h0⟩ := ba h01
    obtain ⟨h2, h34⟩ := ba h234
    obtain ⟨h3, h4⟩ := ba h34
    have e := of_decide_eq_true h2
    obtain ⟨g1, g2⟩ := gl_of g h3
    obtain ⟨d, hf⟩ := Option.isSome_iff_exists.mp h0
    refine (pe_callG g hf e.symm h1 g1 g2 h4 (sEs es X N sc W _ g h4) (fun hx σ H Q q => ?_)).wk fun σ H Q q => ?_
    · subst hx
      cases es with
      | nil => obtain ⟨m, l, h, rh, rl, q⟩ := q; exact q m H [] (Ex.refl m) (Kp.refl _ H) rh rfl
      | cons _ _ => exact absurd h4 Bool.false_ne_true
    · obtain ⟨m, l, h, rh, rl, q⟩ := q
      refine tA_in rh rl (fun _ _ z => z) q fun m1 H1 v w h1 e1 k1 rh1 rl1 rv1 q1 => ?_
      exact call_sp hf rh1 rv1 (callS_mono (LQ.mono e1 k1) (LX.mono e1 k1) q1)
  | .isi f a, X, N, sc, W, x, g, hm => by
    cases x <;> first | exact absurd hm Bool.false_ne_true | skip
    rename_i fn xs kw pos
    cases fn <;> first | exact absurd hm Bool.false_ne_true | skip
    rename_i id p
    match xs, kw, hm with
    | [], _, hm => exact absurd hm Bool.false_ne_true
    | [_], _, hm => exact absurd hm Bool.false_ne_true
    | _ :: _ :: _ :: _, _, hm => simp [mE] at hm
    | [_, _], _ :: _, hm => simp [mE] at hm
    | [y, z], [], hm =>
      cases z <;> first | exact absurd hm Bool.false_ne_true | skip
      rename_i t tp
      obtain ⟨h12, h3456⟩ := ba hm
      obtain ⟨h1, h2⟩ := ba h12
      obtain ⟨h34, h56⟩ := ba h3456
      obtain ⟨h3, h4⟩ := ba h34
      obtain ⟨h5, h6⟩ := ba h56
      exact sIsT g h1 (of_decide_eq_true h3) (of_decide_eq_true h4) h2 h5 h6 (sE a X N sc W _ g h6)
  | .bf f .nil, X, N, sc, W, x, g, hm => by
    cases x <;> first | exact absurd hm Bool.false_ne_true | simp [mE] at hm
  | .bf f (.cons a r), X, N, sc, W, x, g, hm => by
    cases x <;> first | exact absurd hm Bool.false_ne_true | skip
    rename_i fn xs kw pos
    cases fn <;> first | exact absurd hm Bool.false_ne_true | skip
    rename_i id p
    cases kw <;> first | exact absurd hm Bool.false_ne_true | skip
    obtain ⟨h12, h34⟩ := ba hm
    obtain ⟨h1, h2⟩ := ba h12
    obtain ⟨h3, h4⟩ := ba h34
    cases xs with
    | nil => exact absurd h4 Bool.false_ne_true
    | cons y ys =>
      refine (sBf g f (nb h1) (of_decide_eq_true h3) h2 h4 (sEs (.cons a r) X N sc W _ g h4)).wk fun σ H Q q => ?_
      obtain ⟨m, l, h, rh, rl, q⟩ := q
      refine tA_in rh rl (fun _ _ z => z) q fun m1 H1 v w h1 e1 k1 rh1 rl1 rv1 q1 => ?_
      exact ⟨m1, h1, v, rh1, rv1, bfV_mono (LQ.mono e1 k1) q1⟩
  | .dic0, X, N, sc, W, x, g, hm => absurd hm (by cases x <;> exact Bool.false_ne_true)
  | .attr a f, X, N, sc, W, x, g, hm => absurd hm (by cases x <;> exact Bool.false_ne_true)
  | .mk c es, X, N, sc, W, x, g, hm => absurd hm (by cases x <;> exact Bool.false_ne_true)
  | .meth o f es, X, N, sc, W, x, g, hm => absurd hm (by cases x <;> exact Bool.false_ne_true)
  | .ini c es, X, N, sc, W, x, g, hm => absurd hm (by cases x <;> exact Bool.false_ne_true)
  | .bm f o es, X, N, sc, W, x, g, hm => absurd hm (by cases x <;> exact Bool.false_ne_true)
  | .lc f o es c, X, N, sc, W, x, g, hm => absurd hm (by cases x <;> exact Bool.false_ne_true)
theorem sEs : ∀ (e : Es) (X : Cx) (N : List Str) (sc : Sco) (W : WX) (x : List Expr), Good M X N sc W k → mEs M.toMe N sc e x = true → PA X x (tA M W fun Y => evEs M.G (callS M.G k) Y e)
  | .nil, X, N, sc, W, [], g, hm => pa_nil.wk fun σ H Q ⟨m, l, h, rh, rl, q⟩ => q m H [] (Ex.refl m) (Kp.refl _ H) rh rfl
  | .nil, X, N, sc, W, _ :: _, g, hm => absurd hm Bool.false_ne_true
  | .cons _ _, X, N, sc, W, [], g, hm => absurd hm Bool.false_ne_true
  | .cons e es, X, N, sc, W, x :: xs, g, hm => by
    obtain ⟨h1, h2⟩ := ba hm
    refine (pa_cons (sE e X N sc W _ g h1) (sEs es X N sc W _ g h2) (star_of h1 X.env xs)).wk fun σ H Q q => ?_
    obtain ⟨m, l, h, rh, rl, q⟩ := q
    refine tE_in rh rl (fun _ _ z => z) q fun m1 H1 v w h1 e1 k1 rh1 rl1 rv1 q1 => ?_
    refine tA_in rh1 rl1 (LX.mono e1 k1) q1 fun m2 H2 u w2 h2 e2 k2 rh2 rl2 rv2 q2 => ?_
    exact q2 m2 H2 _ (e1.trans e2) (k1.trans k2) rh2 ⟨w, w2, rfl, rv1.mono k2 e2, rv2⟩
theorem sO : ∀ (e : OE) (X : Cx) (N : List Str) (sc : Sco) (W : WX) (x : Option Expr), Good M X N sc W k → mO M.toMe N sc e x = true → L2.PO X x (tOp M W fun Y => evO M.G (callS M.G k) Y e)
  | .no, X, N, sc, W, none, g, hm => (po_none (X := X)).wk fun σ H Q ⟨m, l, h, rh, rl, q⟩ => q m H (Ex.refl m) (Kp.refl _ H) rh
  | .no, X, N, sc, W, some _, g, hm => absurd hm Bool.false_ne_true
  | .so _, X, N, sc, W, none, g, hm => absurd hm Bool.false_ne_true
  | .so e, X, N, sc, W, some x, g, hm => by
    refine (po_some (sE e X N sc W _ g hm)).wk fun σ H Q q => ?_
    obtain ⟨m, l, h, rh, rl, q⟩ := q
    refine tE_in rh rl (fun _ _ z => z) q fun m1 H1 v w h1 e1 k1 rh1 rl1 rv1 q1 => ?_
    obtain ⟨i, rfl, q1⟩ := q1
    exact ⟨i, rv1, q1 m1 H1 e1 k1 rh1⟩
theorem sT : ∀ (e : C) (X : Cx) (N : List Str) (sc : Sco) (W : WX) (x : Expr), Good M X N sc W k → mC M.toMe N sc e x = true → PT X x (tT M W fun Y => evT M.G (callS M.G k) Y e) ∧ ((∃ op ys p, x = .BoolOp op ys p) → PW X x (tT M W fun Y => evT M.G (callS M.G k) Y e))
  | .v e, X, N, sc, W, x, g, hm => by
    have he := isTrue_of (env := X.env) hm
    refine ⟨?_, fun ⟨op, ys, p, e⟩ => by subst e; exact absurd (ba hm).2 Bool.false_ne_true⟩
    refine (pt_truth (sE e X N sc W _ g (ba hm).1) he).wk fun σ H Q q => ?_
    obtain ⟨m, l, h, rh, rl, q⟩ := q
    refine tE_in rh rl (fun _ _ z => z) q fun m1 H1 v w h1 e1 k1 rh1 rl1 rv1 q1 => ?_
    obtain ⟨b, e, q1⟩ := q1
    refine ⟨b, ?_, q1 m1 H1 e1 k1 rh1⟩
    rw [g.hK]
    exact truV_of rh1 rv1 e
  | .cmp o a b, X, N, sc, W, x, g, hm => by
    cases x <;> first | exact absurd hm Bool.false_ne_true | skip
    rename_i y ops zs pos
    match ops, zs, hm with
    | [], _, hm => exact absurd hm Bool.false_ne_true
    | [_], [], hm => exact absurd hm Bool.false_ne_true
    | [_], _ :: _ :: _, hm => exact absurd hm Bool.false_ne_true
    | _ :: _ :: _, _, hm => exact absurd hm Bool.false_ne_true
    | [p], [z], hm =>
      obtain ⟨h123, h4⟩ := ba hm
      obtain ⟨h12, h3⟩ := ba h123
      obtain ⟨h1, h2⟩ := ba h12
      have e := of_decide_eq_true h1
      subst e
      refine ⟨?_, fun ⟨op, ys, p, e⟩ => nomatch e⟩
      refine (pt_cmpR (sC g.hK g.room.units o) (sE a X N sc W _ g h3) (sE b X N sc W _ g h4) (nb h2)).wk fun σ H Q q => ?_
      obtain ⟨m, l, h, rh, rl, q⟩ := q
      refine tE_in rh rl (fun _ _ z => z) q fun m1 H1 v w h1 e1 k1 rh1 rl1 rv1 q1 => ?_
      refine tE_in rh1 rl1 (LX.mono e1 k1) q1 fun m2 H2 u w2 h2 e2 k2 rh2 rl2 rv2 q2 => ?_
      refine ⟨m2, h2, v, u, rh2, rv1.mono k2 e2, rv2, cmpV_mono (fun r h3 q3 m3 H3 e3 k3 rh3 => ?_) q2⟩
      exact ⟨r, rfl, q3 m3 H3 ((e1.trans e2).trans e3) ((k1.trans k2).trans k3) rh3⟩
  | .chain o o' a b c, X, N, sc, W, x, g, hm => by
    cases x <;> first | exact absurd hm Bool.false_ne_true | skip
    rename_i y ops zs pos
    match ops, zs, hm with
    | [], _, hm => exact absurd hm Bool.false_ne_true
    | [_], _, hm => exact absurd hm Bool.false_ne_true
    | _ :: _ :: _ :: _, _, hm => exact absurd hm Bool.false_ne_true
    | [_, _], [], hm => exact absurd hm Bool.false_ne_true
    | [_, _], [_], hm => exact absurd hm Bool.false_ne_true
    | [_, _], _ :: _ :: _ :: _, hm => exact absurd hm Bool.false_ne_true
    | [p, p'], [z, z'], hm =>
      obtain ⟨h12345, h6⟩ := ba hm
      obtain ⟨h1234, h5⟩ := ba h12345
      obtain ⟨h123, h4⟩ := ba h1234
      obtain ⟨h12, h3⟩ := ba h123
      obtain ⟨h1, h2⟩ := ba h12
      have e := of_decide_eq_true h1
      have e' := of_decide_eq_true h2
      subst e; subst e'
      refine ⟨?_, fun ⟨op, ys, p, e⟩ => nomatch e⟩
      refine (pt_chain (sC g.hK g.room.units o) (sC g.hK g.room.units o') (sE a X N sc W _ g h4) (sE b X N sc W _ g h5) (sE c X N sc W _ g h6) (nb h3)).wk fun σ H Q q => ?_
      obtain ⟨m, l, h, rh, rl, q⟩ := q
      refine tE_in rh rl (fun _ _ z => z) q fun m1 H1 v w h1 e1 k1 rh1 rl1 rv1 q1 => ?_
      refine tE_in rh1 rl1 (LX.mono e1 k1) q1 fun m2 H2 u w2 h2 e2 k2 rh2 rl2 rv2 q2 => ?_
      refine ⟨m2, h2, v, u, rh2, rv1.mono k2 e2, rv2, cmpV_mono (fun r h3 q3 m3 H3 e3 k3 rh3 => ?_) q2⟩
      refine ⟨r, rfl, ?_⟩
      have e13 := (e1.trans e2).trans e3
      have k13 := (k1.trans k2).trans k3
      cases r with
      | false => exact ⟨false, rfl, q3 m3 H3 e13 k13 rh3⟩
      | true =>
        refine tE_in rh3 (rl2.mono k3 e3) (LX.mono e13 k13) q3 fun m4 H4 u4 w4 h4 e4 k4 rh4 rl4 rv4 q4 => ?_
        refine ⟨m4, h4, u, u4, rh4, rv2.mono (k3.trans k4) (e3.trans e4), rv4, cmpV_mono (fun r h5 q5 m5 H5 e5 k5 rh5 => ?_) q4⟩
        exact ⟨r, rfl, q5 m5 H5 ((e13.trans e4).trans e5) ((k13.trans k4).trans k5) rh5⟩
  | .nt a, X, N, sc, W, x, g, hm => by
    cases x <;> first | exact absurd hm Bool.false_ne_true | skip
    rename_i op y pos
    cases op <;> first | exact absurd hm Bool.false_ne_true | skip
    refine ⟨?_, fun ⟨op, ys, p, e⟩ => nomatch e⟩
    refine (pt_not (sT a X N sc W _ g hm).1).wk fun σ H Q q => ?_
    obtain ⟨m, l, h, rh, rl, q⟩ := q
    exact tT_in rh rl (fun _ _ z => z) q fun m1 H1 r h1 e1 k1 rh1 rl1 q1 => q1 m1 H1 e1 k1 rh1
  | .and a b, X, N, sc, W, x, g, hm => by
    cases x <;> first | exact absurd hm Bool.false_ne_true | skip
    rename_i op xs pos
    cases op <;> first | exact absurd hm Bool.false_ne_true | skip
    match xs, hm with
    | [], hm => exact absurd hm Bool.false_ne_true
    | [_], hm => exact absurd hm Bool.false_ne_true
    | y :: z :: r, hm =>
      obtain ⟨h1, h2⟩ := ba hm
      have hb : PW X (.BoolOp .And (z :: r) pos) (tT M W fun Y => evT M.G (callS M.G k) Y b) := by
        cases r with
        | nil => exact pw_and1 (sT b X N sc W _ g h2).1
        | cons z' r' => exact (sT b X N sc W _ g h2).2 ⟨_, _, _, rfl⟩
      have hw : PW X (.BoolOp .And (y :: z :: r) pos) (tT M W fun Y => evT M.G (callS M.G k) Y (.and a b)) := by
        refine (pw_and (sT a X N sc W _ g h1).1 hb).wk fun σ H Q q => ?_
        obtain ⟨m, l, h, rh, rl, q⟩ := q
        refine tT_in rh rl (fun _ _ z => z) q fun m1 H1 r h1 e1 k1 rh1 rl1 q1 => ?_
        cases r with
        | true => exact tT_in rh1 rl1 (LX.mono e1 k1) q1 fun m2 H2 r h2 e2 k2 rh2 rl2 q2 => q2 m2 H2 (e1.trans e2) (k1.trans k2) rh2
        | false => exact q1 m1 H1 e1 k1 rh1
      exact ⟨hw.pt, fun _ => hw⟩
  | .or a b, X, N, sc, W, x, g, hm => by
    cases x <;> first | exact absurd hm Bool.false_ne_true | skip
    rename_i op xs pos
    cases op <;> first | exact absurd hm Bool.false_ne_true | skip
    match xs, hm with
    | [], hm => exact absurd hm Bool.false_ne_true
    | [_], hm => exact absurd hm Bool.false_ne_true
    | y :: z :: r, hm =>
      obtain ⟨h1, h2⟩ := ba hm
      have hb : PW X (.BoolOp .Or (z :: r) pos) (tT M W fun Y => evT M.G (callS M.G k) Y b) := by
        cases r with
        | nil => exact pw_or1 (sT b X N sc W _ g h2).1
        | cons z' r' => exact (sT b X N sc W _ g h2).2 ⟨_, _, _, rfl⟩
      have hw : PW X (.BoolOp .Or (y :: z :: r) pos) (tT M W fun Y => evT M.G (callS M.G k) Y (.or a b)) := by
        refine (pw_or (sT a X N sc W _ g h1).1 hb).wk fun σ H Q q => ?_
        obtain ⟨m, l, h, rh, rl, q⟩ := q
        refine tT_in rh rl (fun _ _ z => z) q fun m1 H1 r h1 e1 k1 rh1 rl1 q1 => ?_
        cases r with
        | false => exact tT_in rh1 rl1 (LX.mono e1 k1) q1 fun m2 H2 r h2 e2 k2 rh2 rl2 q2 => q2 m2 H2 (e1.trans e2) (k1.trans k2) rh2
        | true => exact q1 m1 H1 e1 k1 rh1
      exact ⟨hw.pt, fun _ => hw⟩
end
end
end Py

set_option Elab.async false
set_option linter.all false
set_option maxRecDepth 100000
set_option maxHeartbeats 4000000
/-! PySound4: what loops walk; targets; statements. -/
namespace Py
open PySem PySem.Spec PyProof.Rows L2

theorem _root_.L2.PI.wk {X : Cx} {tg it : Expr} {t t' : TI} (p : PI X tg it t) (h : ∀ σ H R, t' σ H R → t σ H R) : PI X tg it t' := ⟨fun pins s σ H R I q => p.run pins s σ H R I (h _ _ _ q)⟩
theorem _root_.L2.PG.wk {X : Cx} {tg : Expr} {t t' : TG} (p : PG X tg t) (h : ∀ v σ H R, t' v σ H R → t v σ H R) : PG X tg t' := ⟨fun pins s σ H v u R I r q => p.run pins s σ H v u R I r (h _ _ _ _ q)⟩
theorem _root_.L2.PGs.wk {X : Cx} {tg : List Expr} {t t' : TGs} (p : PGs X tg t) (h : ∀ v σ H R, t' v σ H R → t v σ H R) : PGs X tg t' := ⟨fun pins s σ H v u R I r q => p.run pins s σ H v u R I r (h _ _ _ _ q)⟩
theorem _root_.L2.PS.wk {X : Cx} {st : Stmt} {t t' : TS} (p : PS X st t) (h : ∀ D σ H, t' D σ H → t D σ H) : PS X st t' := ⟨fun pins s σ H D I q => p.run pins s σ H D I (h _ _ _ q)⟩
theorem _root_.L2.PSs.wk {X : Cx} {st : List Stmt} {t t' : TS} (p : PSs X st t) (h : ∀ D σ H, t' D σ H → t D σ H) : PSs X st t' := ⟨fun pins s σ H D I q => p.run pins s σ H D I (h _ _ _ q)⟩

/-! ### what a loop walks -/
/-- a walk of the layer that gives these items while live holds -/
structure Wk (M : Mo) (m1 : List Addr) (H1 : Hp) (items : List PV) (live : PH → Prop) (J : It) : Prop where
  ex : ∃ (G : Hp → Prop) (Y : Nat → Hp → V → Hp → Prop), L2.Walk J items.length G Y ∧
    (∀ (m : List Addr) (H : Hp) (h : PH), Ex m1 m → Kp M.K H1 H → RH M H m h → live h → G H) ∧
    (∀ (i : Nat) (m : List Addr) (H : Hp) (h : PH) (x : V) (H' : Hp), Ex m1 m → Kp M.K H1 H → RH M H m h → live h → i < items.length → Y i H x H' → ∃ v, items[i]? = some v ∧ RH M H' m h ∧ Kp M.K H H' ∧ RV M.K H' m v x)
def LI (M : Mo) (m : List Addr) (H : Hp) (R : It → Hp → Prop) : KI := fun items live h1 => ∀ (m1 : List Addr) (H1 : Hp) (J : It), Ex m m1 → Kp M.K H H1 → RH M H1 m1 h1 → Wk M m1 H1 items live J → R J H1
theorem LI.mono {M : Mo} {m m1 : List Addr} {H H1 : Hp} {R : It → Hp → Prop} (e : Ex m m1) (k : Kp M.K H H1) : ∀ a b c, LI M m H R a b c → LI M m1 H1 R a b c := fun a b c q m' H' J e' k' r w => q m' H' J (e.trans e') (k.trans k') r w
abbrev DI := KX → Loc → PH → KI → Prop
def tI (M : Mo) (W : WX) (d : DI) : TI := fun σ H R => ∃ m l h, RH M H m h ∧ RL M.K H m l σ ∧ d (LX M W σ m H) l h (LI M m H R)
theorem RVs.get' {K : PySem.W.Frag} {H : Hp} {m : List Addr} {xs : List PV} {vs : List V} {i : Nat} {x : V} (h : RVs K H m xs vs) (e : vs[i]? = some x) : ∃ v, xs[i]? = some v ∧ RV K H m v x := by
  have h1 := (List.getElem?_eq_some_iff.mp e).1
  rw [← h.len] at h1
  have e2 : xs[i]? = some xs[i] := List.getElem?_eq_getElem h1
  obtain ⟨w, e3, r⟩ := h.get e2
  rw [e] at e3; cases e3
  exact ⟨_, e2, r⟩
theorem lst_ref {h : PH} {v : PV} {xs : List PV} (e : lstOf h v = some xs) : ∃ a, v = .ref a := by
  cases v <;> first | exact ⟨_, rfl⟩ | cases e
/-- a list's live content -/
theorem live_now {M : Mo} {H1 H : Hp} {m1 m : List Addr} {h : PH} {v : PV} {p : Addr} {xs : List PV} (e : Ex m1 m) (k : Kp M.K H1 H) (r : RH M H m h) (hv : RV M.K H1 m1 v (.ref p)) (hr : ∃ a, v = .ref a) (lv : liveL v xs h) : ∃ ws, SqL M.K H p ws ∧ RVs M.K H m xs ws := by
  obtain ⟨a, rfl⟩ := hr
  obtain ⟨p', ws, e1, e2, e3⟩ := lstOf_get r (hv.mono k e _ _) lv
  cases e1
  exact ⟨ws, e2, e3⟩
theorem walk_listG {K : PySem.W.Frag} {a : Addr} {n : Nat} : L2.Walk (Itl K a) n (fun H => ∃ ws, SqL K H a ws ∧ ws.length = n) (fun i H x H' => H' = H ∧ ∀ ws, SqL K H a ws → ws[i]? = some x) :=
  ⟨fun i _ hi ⟨ws, q, e⟩ => ⟨ws, ws[i]'(by rw [e]; exact hi), q, by simp [e, hi]⟩, fun _ ⟨ws, q, e⟩ => ⟨ws, q, Nat.le_of_eq e⟩, fun _ _ _ _ _ _ y => y⟩
theorem walk_enumG {K : PySem.W.Frag} {a : Addr} {n : Nat} : L2.Walk (Ite K a) n (fun H => ∃ ws, SqL K H a ws ∧ ws.length = n) (fun i H v H' => ∃ T x, v = .ref T ∧ H T = none ∧ H' = upd H T (.tup [.int (i : Nat), x]) ∧ ∀ xs, SqL K H a xs → xs[i]? = some x) :=
  ⟨fun i _ hi ⟨ws, q, e⟩ => ⟨ws, ws[i]'(by rw [e]; exact hi), q, by simp [e, hi]⟩, fun _ ⟨ws, q, e⟩ => ⟨ws, q, Nat.le_of_eq e⟩, fun _ _ _ _ _ _ y => y⟩
theorem walk_revG {K : PySem.W.Frag} {a : Addr} {n : Nat} : L2.Walk (Itv K a n) n (fun H => ∃ ws, SqL K H a ws ∧ ws.length = n) (fun i H x H' => H' = H ∧ ∀ ws, SqL K H a ws → ws[n - 1 - i]? = some x) :=
  ⟨fun i _ hi ⟨ws, q, e⟩ => ⟨hi, ws, ws[n - 1 - i]'(by rw [e]; omega), q, by simp [e, show n - 1 - i < n by omega]⟩, fun _ _ => Nat.le_refl _, fun _ _ _ _ _ _ y => y⟩
theorem walk_zipG {K : PySem.W.Frag} {a b : Addr} {n1 n2 : Nat} : L2.Walk (Itz K a b) (min n1 n2) (fun H => (∃ ws, SqL K H a ws ∧ ws.length = n1) ∧ ∃ zs, SqL K H b zs ∧ zs.length = n2)
    (fun i H v H' => ∃ T x y, v = .ref T ∧ H T = none ∧ H' = upd H T (.tup [x, y]) ∧ (∀ xs, SqL K H a xs → xs[i]? = some x) ∧ ∀ ys, SqL K H b ys → ys[i]? = some y) :=
  ⟨fun i _ hi ⟨⟨ws, q, e⟩, zs, q', e'⟩ => ⟨ws, zs, ws[i]'(by rw [e]; omega), zs[i]'(by rw [e']; omega), q, q', by simp [e, show i < n1 by omega], by simp [e', show i < n2 by omega]⟩,
    fun _ ⟨⟨ws, q, e⟩, zs, q', e'⟩ => ⟨ws, zs, q, q', by omega⟩, fun _ _ _ _ _ _ y => y⟩
section
variable {M : Mo} {m1 : List Addr} {H1 : Hp}
theorem wk_list {v : PV} {p : Addr} {xs : List PV} (hv : RV M.K H1 m1 v (.ref p)) (hr : ∃ a, v = .ref a) : Wk M m1 H1 xs (liveL v xs) (Itl M.K p) := by
  refine ⟨_, _, walk_listG, fun m H h e k r lv => ?_, fun i m H h x H' e k r lv hi y => ?_⟩
  · obtain ⟨ws, q, rv⟩ := live_now e k r hv hr lv
    exact ⟨ws, q, rv.len.symm⟩
  · obtain ⟨rfl, y⟩ := y
    obtain ⟨ws, q, rv⟩ := live_now e k r hv hr lv
    obtain ⟨u, e1, e2⟩ := rv.get' (y ws q)
    exact ⟨u, e1, r, Kp.refl _ _, e2⟩
theorem wk_tup {p : Addr} {vs : List V} {xs : List PV} {live : PH → Prop} (h : SqT M.K H1 p vs) (rv : RVs M.K H1 m1 xs vs) : Wk M m1 H1 xs live (Itt M.K p) := by
  refine ⟨_, _, by rw [rv.len]; exact walk_tup (xs := vs), fun m H h' e k r lv => k _ _ h, fun i m H h' x H' e k r lv hi y => ?_⟩
  obtain ⟨rfl, y⟩ := y
  obtain ⟨u, e1, e2⟩ := (rv.mono k e).get' y
  exact ⟨u, e1, r, Kp.refl _ _, e2⟩
theorem wk_str {s : Str} {live : PH → Prop} : Wk M m1 H1 (s.cps.toList.map fun c => .str ⟨#[c]⟩) live (Its s) := by
  refine ⟨_, _, by rw [List.length_map, Array.length_toList]; exact walk_str, fun _ _ _ _ _ _ _ => trivial, fun i m H h' x H' e k r lv hi y => ?_⟩
  obtain ⟨rfl, c, e1, rfl⟩ := y
  exact ⟨.str ⟨#[c]⟩, by rw [List.getElem?_map, Array.getElem?_toList, e1] <;> rfl, r, Kp.refl _ _, rfl⟩
theorem wk_range {lo : Int} {n : Nat} {live : PH → Prop} : Wk M m1 H1 (rangeL lo n) live (Itr lo n) := by
  refine ⟨_, _, by unfold rangeL; rw [List.length_map, List.length_range]; exact walk_range, fun _ _ _ _ _ _ _ => trivial, fun i m H h' x H' e k r lv hi y => ?_⟩
  obtain ⟨rfl, rfl⟩ := y
  have hi' : i < n := by unfold rangeL at hi; simpa using hi
  exact ⟨.int (lo + (i : Nat)), by unfold rangeL; rw [List.getElem?_map, List.getElem?_range hi'] <;> rfl, r, Kp.refl _ _, rfl⟩
theorem enum_get : ∀ (xs : List PV) (n i : Nat), (enumFrom n xs)[i]? = xs[i]?.map fun x => .tup [.int ((n + i : Nat) : Int), x]
  | [], n, i => by simp [enumFrom]
  | x :: r, n, 0 => rfl
  | x :: r, n, i + 1 => by
    show (enumFrom (n + 1) r)[i]? = (r[i]?).map _
    rw [enum_get r (n + 1) i, show n + 1 + i = n + (i + 1) by omega]
theorem enum_len : ∀ (xs : List PV) (n : Nat), (enumFrom n xs).length = xs.length
  | [], _ => rfl
  | x :: r, n => congrArg Nat.succ (enum_len r (n + 1))
theorem zip_len : ∀ (xs ys : List PV), (zipT xs ys).length = min xs.length ys.length
  | [], ys => by simp [zipT]
  | x :: xs, [] => by simp [zipT]
  | x :: xs, y :: ys => by simp [zipT, zip_len xs ys]
theorem zip_get : ∀ (xs ys : List PV) (i : Nat) (x y : PV), xs[i]? = some x → ys[i]? = some y → (zipT xs ys)[i]? = some (.tup [x, y])
  | [], ys, i, x, y, h, _ => by simp at h
  | a :: xs, [], i, x, y, _, h => by simp at h
  | a :: xs, b :: ys, 0, x, y, h1, h2 => by simp at h1 h2; subst h1 h2; rfl
  | a :: xs, b :: ys, i + 1, x, y, h1, h2 => by
    show (zipT xs ys)[i]? = _
    exact zip_get xs ys i x y (by simpa using h1) (by simpa using h2)
theorem wk_enum {v : PV} {p : Addr} {xs : List PV} (hv : RV M.K H1 m1 v (.ref p)) (hr : ∃ a, v = .ref a) : Wk M m1 H1 (enumFrom 0 xs) (liveL v xs) (Ite M.K p) := by
  refine ⟨_, _, by rw [enum_len]; exact walk_enumG, fun m H h e k r lv => ?_, fun i m H h x H' e k r lv hi y => ?_⟩
  · obtain ⟨ws, q, rv⟩ := live_now e k r hv hr lv
    exact ⟨ws, q, rv.len.symm⟩
  · obtain ⟨T, z, rfl, hT, rfl, y⟩ := y
    obtain ⟨ws, q, rv⟩ := live_now e k r hv hr lv
    obtain ⟨u, e1, e2⟩ := rv.get' (y ws q)
    refine ⟨.tup [.int (i : Nat), u], ?_, r.tup hT, Kp.upd_new hT, ⟨T, _, rfl, .inl (.inl upd_same), ⟨_, _, rfl, rfl, RVs.one (e2.mono (Kp.upd_new hT) (Ex.refl m) _ _)⟩⟩⟩
    rw [enum_get, e1, Nat.zero_add] <;> rfl
theorem wk_zip {v u : PV} {p q : Addr} {xs ys : List PV} (hv : RV M.K H1 m1 v (.ref p)) (hr : ∃ a, v = .ref a) (hu : RV M.K H1 m1 u (.ref q)) (hs : ∃ a, u = .ref a) : Wk M m1 H1 (zipT xs ys) (fun h => liveL v xs h ∧ liveL u ys h) (Itz M.K p q) := by
  refine ⟨_, _, by rw [zip_len]; exact walk_zipG, fun m H h e k r lv => ?_, fun i m H h x H' e k r lv hi y => ?_⟩
  · obtain ⟨ws, q1, rv⟩ := live_now e k r hv hr lv.1
    obtain ⟨zs, q2, rz⟩ := live_now e k r hu hs lv.2
    exact ⟨⟨ws, q1, rv.len.symm⟩, zs, q2, rz.len.symm⟩
  · obtain ⟨T, z1, z2, rfl, hT, rfl, y1, y2⟩ := y
    obtain ⟨ws, q1, rv⟩ := live_now e k r hv hr lv.1
    obtain ⟨zs, q2, rz⟩ := live_now e k r hu hs lv.2
    obtain ⟨u1, e1, e2⟩ := rv.get' (y1 ws q1)
    obtain ⟨u2, e3, e4⟩ := rz.get' (y2 zs q2)
    have kk := Kp.upd_new (K := M.K) (o := HO.tup [z1, z2]) hT
    exact ⟨.tup [u1, u2], zip_get xs ys i u1 u2 e1 e3, r.tup hT, kk, ⟨T, _, rfl, .inl (.inl upd_same), ⟨_, _, rfl, e2.mono kk (Ex.refl m) _ _, RVs.one (e4.mono kk (Ex.refl m) _ _)⟩⟩⟩
theorem wk_rev {v : PV} {p : Addr} {xs : List PV} (hv : RV M.K H1 m1 v (.ref p)) (hr : ∃ a, v = .ref a) : Wk M m1 H1 xs.reverse (liveL v xs) (Itv M.K p xs.length) := by
  refine ⟨_, _, by rw [List.length_reverse]; exact walk_revG, fun m H h e k r lv => ?_, fun i m H h x H' e k r lv hi y => ?_⟩
  · obtain ⟨ws, q, rv⟩ := live_now e k r hv hr lv
    exact ⟨ws, q, rv.len.symm⟩
  · obtain ⟨rfl, y⟩ := y
    obtain ⟨ws, q, rv⟩ := live_now e k r hv hr lv
    obtain ⟨u, e1, e2⟩ := rv.get' (y ws q)
    rw [List.length_reverse] at hi
    exact ⟨u, by rw [List.getElem?_reverse hi]; exact e1, r, Kp.refl _ _, e2⟩
end
section
variable {X : Cx} {tg : Expr} {pins : List (Addr × Obj)} {σ : L2.St} {s1 : Shared} {H1 : Hp} {R : It → Hp → Prop}
theorem iter_list {a : Addr} {xs : List V} (I1 : L2.Inv X pins σ H1 s1) (hq : SqL X.K H1 a xs) (q : R (Itl X.K a) H1) : wpAny (model X.prog X.w) X.A (pyIter (.ref a)) (PIE X pins σ tg R) X.xe s1 := by
  obtain ⟨its, rv, p, hz⟩ := I1.list hq
  refine wpAny_pyIter_list p.isList ?_
  refine ⟨s1.heap.objs.size, [s1.heap.objs.size], _, _, H1, rfl, I1.kept (t' := s1.toks) fun b o e => Heap.get?_push_of_some _ e, turn_list a _, ⟨_, Heap.get?_push_size _ rfl, rfl, rfl⟩, fun b hb => ?_, q⟩
  have e : b = s1.heap.objs.size := by simpa using hb
  subst e
  exact I1.fpOk (Nat.le_refl _) (I1.hok.fresh (Nat.le_refl _))
theorem iter_tup {a : Addr} {xs : List V} (I1 : L2.Inv X pins σ H1 s1) (hq : SqT X.K H1 a xs) (q : R (Itt X.K a) H1) : wpAny (model X.prog X.w) X.A (pyIter (.ref a)) (PIE X pins σ tg R) X.xe s1 := by
  obtain ⟨its, rv, p, hz⟩ := I1.tuple hq
  refine wpAny_pyIter_tuple (show s1.heap.IsTuple a its.toArray from p) ?_
  refine ⟨s1.heap.objs.size, [s1.heap.objs.size], _, _, H1, rfl, I1.kept (t' := s1.toks) fun b o e => Heap.get?_push_of_some _ e, turn_tuple a _, ⟨_, Heap.get?_push_size _ rfl, rfl, rfl⟩, fun b hb => ?_, q⟩
  have e : b = s1.heap.objs.size := by simpa using hb
  subst e
  exact I1.fpOk (Nat.le_refl _) (I1.hok.fresh (Nat.le_refl _))
theorem iter_str {x : Str} {t : Tok} (I1 : L2.Inv X pins σ H1 s1) (q : R (Its x) H1) : wpAny (model X.prog X.w) X.A (pyIter (.str x t)) (PIE X pins σ tg R) X.xe s1 := by
  cases ha : x.cps.all (· < 128)
  · exact wpAny_pyIter_wide ha (pi_one (tk := s1.toks) I1 _ (turn_str _ x t "str_iterator" (.inr rfl)) ⟨_, Heap.get?_push_size _ rfl, rfl, rfl⟩ q)
  · exact wpAny_pyIter_ascii ha (pi_one (tk := s1.toks) I1 _ (turn_str _ x t "str_ascii_iterator" (.inl rfl)) ⟨_, Heap.get?_push_size _ rfl, rfl, rfl⟩ q)
end
/-- for .. in a value -/
theorem pi_seq {M : Mo} {X : Cx} {N : List Str} {sc : Sco} {W : WX} {k : Nat} (g : Good M X N sc W k) {tg e : Expr} {a : E} (he : PE X e (tE M W fun Y => evE M.G (callS M.G k) Y a)) : PI X tg e (tI M W fun Y => evI M.G (callS M.G k) Y (.seq a)) := by
  refine ⟨fun pins s σ H R I h => ?_⟩
  obtain ⟨m, l, hh, rh, rl, q⟩ := h
  refine thn (he.run pins s σ H (fun x H1 => ∃ m1 h1 v xs, Ex m m1 ∧ Kp M.K H H1 ∧ RH M H1 m1 h1 ∧ RV M.K H1 m1 v x ∧ itemsOf h1 v = some xs ∧ LI M m1 H1 R xs (liveL v xs) h1) I (tE_in rh rl (fun _ _ z => z) q fun m1 H1 v w h1 e1 k1 rh1 rl1 rv1 ⟨xs, q1, q2⟩ => ⟨m1, h1, v, xs, e1, k1, rh1, rv1, q1, LI.mono e1 k1 _ _ _ q2⟩)) fun u s1 ⟨x, H1, I1, r1, q1⟩ => ?_
  obtain ⟨m1, h1, v, xs, e1, k1, rh1, rv, ei, q2⟩ := q1
  have go : ∀ J, Wk M m1 H1 xs (liveL v xs) J → R J H1 := fun J wk => q2 m1 H1 J (Ex.refl m1) (Kp.refl _ H1) rh1 wk
  cases v with
  | str z =>
    cases (show x = .str z from rv)
    obtain ⟨t, rfl⟩ := r1
    cases ei
    exact iter_str I1 (go _ wk_str)
  | tup zs =>
    obtain ⟨p, vs, rfl, e2, e3⟩ := rv
    cases r1
    cases ei
    exact iter_tup I1 (xs := vs) (by rw [g.hK]; exact e2) (by rw [g.hK]; exact go _ (wk_tup e2 e3))
  | ref b =>
    have e2 : lstOf h1 (.ref b) = some xs := ei
    obtain ⟨p, vs, rfl, e3, e4⟩ := lstOf_get rh1 rv e2
    cases r1
    exact iter_list I1 (xs := vs) (by rw [g.hK]; exact e3) (by rw [g.hK]; exact go _ (wk_list rv ⟨b, rfl⟩))
  | non => cases ei
  | bl _ => cases ei
  | int _ => cases ei

/-! ### the match for what is walked, targets, statements -/
def locB (dc : Bool) (sc : Sco) (x : Str) : Bool := match sc.lookup x with
  | some .local => true
  | some .cell => dc
  | _ => false
def notSet : Expr → Bool
  | .Set .. => false
  | _ => true
def mI (M : Me) (N : List Str) (sc : Sco) (tg : Expr) : I → Expr → Bool
  | .rng1 a, .Call (.Name x _) [y] [] _ => (decide (x = ("range" : Str)) && glB sc x) && mE M N sc a y
  | .rng2 a b, .Call (.Name x _) [y, z] [] _ => (decide (x = ("range" : Str)) && glB sc x) && (mE M N sc a y && mE M N sc b z)
  | .enu a, .Call (.Name x _) [y] [] _ => (decide (x = ("enumerate" : Str)) && glB sc x) && (mE M N sc a y && (match tg with
    | .Tuple .. => true
    | _ => false))
  | .zip2 a b, .Call (.Name x _) [y, z] [] _ => (decide (x = ("zip" : Str)) && glB sc x) && ((mE M N sc a y && mE M N sc b z) && (match tg with
    | .Tuple .. => true
    | _ => false))
  | .rev a, .Call (.Name x _) [y] [] _ => (decide (x = ("reversed" : Str)) && glB sc x) && mE M N sc a y
  | .seq a, x => mE M N sc a x && notSet x
  | _, _ => false
mutual
def mT (dc : Bool) (N : List Str) (sc : Sco) : T → Expr → Bool
  | .nm i, .Name x _ => decide (N[i]? = some x) && locB dc sc x
  | .tup ts, .Tuple xs _ _ => mTs dc N sc ts xs
  | _, _ => false
def mTs (dc : Bool) (N : List Str) (sc : Sco) : Ts → List Expr → Bool
  | .nil, [] => true
  | .cons t ts, x :: xs => mT dc N sc t x && mTs dc N sc ts xs
  | _, _ => false
end
end Py

set_option Elab.async false
set_option linter.all false
set_option maxRecDepth 100000
set_option maxHeartbeats 4000000
/-! PySound5: statements. -/
namespace Py
open PySem PySem.Spec PyProof.Rows L2
section
variable {M : Mo} {k : Nat}
theorem blt_in {x : Str} (h : x = "range" ∨ x = "enumerate" ∨ x = "zip" ∨ x = "reversed") : x ∈ bltNames := by
  rcases h with rfl | rfl | rfl | rfl <;> (unfold bltNames; simp)
theorem sI : ∀ (it : I) (X : Cx) (N : List Str) (sc : Sco) (W : WX) (tg x : Expr), Good M X N sc W k → mI M.toMe N sc tg it x = true → PI X tg x (tI M W fun Y => evI M.G (callS M.G k) Y it) ∧ notSet x = true
  | .seq a, X, N, sc, W, tg, x, g, hm => by
    obtain ⟨h1, h2⟩ := ba hm
    exact ⟨pi_seq g (sE a X N sc W x g h1), h2⟩
  | .rng1 a, X, N, sc, W, tg, x, g, hm => by
    cases x <;> first | exact absurd hm Bool.false_ne_true | skip
    rename_i fn xs kw pos
    cases fn <;> first | exact absurd hm Bool.false_ne_true | skip
    rename_i id p
    match xs, kw, hm with
    | [], _, hm => exact absurd hm Bool.false_ne_true
    | _ :: _ :: _, _, hm => simp [mI] at hm
    | [_], _ :: _, hm => simp [mI] at hm
    | [y], [], hm =>
      obtain ⟨h12, h3⟩ := ba hm
      obtain ⟨h1, h2⟩ := ba h12
      have e := of_decide_eq_true h1
      subst e
      obtain ⟨g1, g2⟩ := gl_of g h2
      refine ⟨(pi_range1 g1 (g.glo.free _ (blt_in (.inl rfl))) (pa_cons (sE a X N sc W y g h3) pa_nil (star_of h3 X.env _)) (star_of h3 X.env _)).wk fun σ H R q => ?_, rfl⟩
      obtain ⟨m, l, h, rh, rl, q⟩ := q
      refine tE_in rh rl (fun _ _ z => z) q fun m1 H1 v w h1 e1 k1 rh1 rl1 rv1 q1 => ?_
      obtain ⟨j, rfl, q2, q3⟩ := q1
      cases (show w = .int j from rv1)
      exact ⟨j, rfl, q2.1, q2.2, q3 m1 H1 _ e1 k1 rh1 wk_range⟩
  | .rng2 a b, X, N, sc, W, tg, x, g, hm => by
    cases x <;> first | exact absurd hm Bool.false_ne_true | skip
    rename_i fn xs kw pos
    cases fn <;> first | exact absurd hm Bool.false_ne_true | skip
    rename_i id p
    match xs, kw, hm with
    | [], _, hm => exact absurd hm Bool.false_ne_true
    | [_], _, hm => exact absurd hm Bool.false_ne_true
    | _ :: _ :: _ :: _, _, hm => simp [mI] at hm
    | [_, _], _ :: _, hm => simp [mI] at hm
    | [y, z], [], hm =>
      obtain ⟨h12, h34⟩ := ba hm
      obtain ⟨h1, h2⟩ := ba h12
      obtain ⟨h3, h4⟩ := ba h34
      have e := of_decide_eq_true h1
      subst e
      obtain ⟨g1, g2⟩ := gl_of g h2
      refine ⟨(pi_range2 g1 (g.glo.free _ (blt_in (.inl rfl))) (pa_cons (sE a X N sc W y g h3) (pa_cons (sE b X N sc W z g h4) pa_nil (star_of h4 X.env _)) (star_of h3 X.env _)) (by rw [star_of h3 X.env, star_of h4 X.env] <;> rfl) (star_of h4 X.env _)).wk fun σ H R q => ?_, rfl⟩
      obtain ⟨m, l, h, rh, rl, q⟩ := q
      refine tE_in rh rl (fun _ _ z => z) q fun m1 H1 v w h1 e1 k1 rh1 rl1 rv1 q1 => ?_
      refine tE_in rh1 rl1 (LX.mono e1 k1) q1 fun m2 H2 u w2 h2 e2 k2 rh2 rl2 rv2 q2 => ?_
      obtain ⟨i, j, rfl, rfl, q3, q4⟩ := q2
      cases (show w = .int i from rv1)
      cases (show w2 = .int j from rv2)
      exact ⟨i, j, rfl, q3, q4 m2 H2 _ (e1.trans e2) (k1.trans k2) rh2 wk_range⟩
  | .enu a, X, N, sc, W, tg, x, g, hm => by
    cases x <;> first | exact absurd hm Bool.false_ne_true | skip
    rename_i fn xs kw pos
    cases fn <;> first | exact absurd hm Bool.false_ne_true | skip
    rename_i id p
    match xs, kw, hm with
    | [], _, hm => exact absurd hm Bool.false_ne_true
    | _ :: _ :: _, _, hm => simp [mI] at hm
    | [_], _ :: _, hm => simp [mI] at hm
    | [y], [], hm =>
      obtain ⟨h12, h34⟩ := ba hm
      obtain ⟨h1, h2⟩ := ba h12
      obtain ⟨h3, h4⟩ := ba h34
      have e := of_decide_eq_true h1
      subst e
      obtain ⟨g1, g2⟩ := gl_of g h2
      cases tg <;> first | exact absurd h4 Bool.false_ne_true | skip
      refine ⟨(pi_enum g1 (g.glo.free _ (blt_in (.inr (.inl rfl)))) (pa_cons (sE a X N sc W y g h3) pa_nil (star_of h3 X.env _)) (star_of h3 X.env _)).wk fun σ H R q => ?_, rfl⟩
      obtain ⟨m, l, h, rh, rl, q⟩ := q
      refine tE_in rh rl (fun _ _ z => z) q fun m1 H1 v w h1 e1 k1 rh1 rl1 rv1 q1 => ?_
      obtain ⟨zs, q2, q3⟩ := q1
      obtain ⟨p, vs, rfl, e3, e4⟩ := lstOf_get rh1 rv1 q2
      exact ⟨p, vs, rfl, by rw [g.hK]; exact e3, by rw [g.hK]; exact q3 m1 H1 _ e1 k1 rh1 (wk_enum rv1 (lst_ref q2))⟩
  | .zip2 a b, X, N, sc, W, tg, x, g, hm => by
    cases x <;> first | exact absurd hm Bool.false_ne_true | skip
    rename_i fn xs kw pos
    cases fn <;> first | exact absurd hm Bool.false_ne_true | skip
    rename_i id p
    match xs, kw, hm with
    | [], _, hm => exact absurd hm Bool.false_ne_true
    | [_], _, hm => exact absurd hm Bool.false_ne_true
    | _ :: _ :: _ :: _, _, hm => simp [mI] at hm
    | [_, _], _ :: _, hm => simp [mI] at hm
    | [y, z], [], hm =>
      obtain ⟨h12, h345⟩ := ba hm
      obtain ⟨h1, h2⟩ := ba h12
      obtain ⟨h34, h5⟩ := ba h345
      obtain ⟨h3, h4⟩ := ba h34
      have e := of_decide_eq_true h1
      subst e
      obtain ⟨g1, g2⟩ := gl_of g h2
      cases tg <;> first | exact absurd h5 Bool.false_ne_true | skip
      refine ⟨(pi_zip g1 (g.glo.free _ (blt_in (.inr (.inr (.inl rfl))))) (pa_cons (sE a X N sc W y g h3) (pa_cons (sE b X N sc W z g h4) pa_nil (star_of h4 X.env _)) (star_of h3 X.env _)) (star_of h3 X.env _) (by rw [star_of h4 X.env] <;> rfl)).wk fun σ H R q => ?_, rfl⟩
      obtain ⟨m, l, h, rh, rl, q⟩ := q
      refine tE_in rh rl (fun _ _ z => z) q fun m1 H1 v w h1 e1 k1 rh1 rl1 rv1 q1 => ?_
      refine tE_in rh1 rl1 (LX.mono e1 k1) q1 fun m2 H2 u w2 h2 e2 k2 rh2 rl2 rv2 q2 => ?_
      obtain ⟨xs, ys, q3, q4, q5⟩ := q2
      have rv1' := rv1.mono k2 e2
      obtain ⟨p, vs, rfl, e3, e4⟩ := lstOf_get rh2 rv1' q3
      obtain ⟨p', ws, rfl, e5, e6⟩ := lstOf_get rh2 rv2 q4
      exact ⟨p, p', vs, ws, rfl, by rw [g.hK]; exact e3, by rw [g.hK]; exact e5, by rw [g.hK]; exact q5 m2 H2 _ (e1.trans e2) (k1.trans k2) rh2 (wk_zip rv1' (lst_ref q3) rv2 (lst_ref q4))⟩
  | .rev a, X, N, sc, W, tg, x, g, hm => by
    cases x <;> first | exact absurd hm Bool.false_ne_true | skip
    rename_i fn xs kw pos
    cases fn <;> first | exact absurd hm Bool.false_ne_true | skip
    rename_i id p
    match xs, kw, hm with
    | [], _, hm => exact absurd hm Bool.false_ne_true
    | _ :: _ :: _, _, hm => simp [mI] at hm
    | [_], _ :: _, hm => simp [mI] at hm
    | [y], [], hm =>
      obtain ⟨h12, h3⟩ := ba hm
      obtain ⟨h1, h2⟩ := ba h12
      have e := of_decide_eq_true h1
      subst e
      obtain ⟨g1, g2⟩ := gl_of g h2
      refine ⟨(pi_reversed g1 (g.glo.free _ (blt_in (.inr (.inr (.inr rfl))))) (pa_cons (sE a X N sc W y g h3) pa_nil (star_of h3 X.env _)) (star_of h3 X.env _)).wk fun σ H R q => ?_, rfl⟩
      obtain ⟨m, l, h, rh, rl, q⟩ := q
      refine tE_in rh rl (fun _ _ z => z) q fun m1 H1 v w h1 e1 k1 rh1 rl1 rv1 q1 => ?_
      obtain ⟨zs, q2, q3⟩ := q1
      obtain ⟨p, vs, rfl, e3, e4⟩ := lstOf_get rh1 rv1 q2
      refine ⟨p, vs, rfl, by rw [g.hK]; exact e3, ?_⟩
      rw [g.hK, ← e4.len]
      exact q3 m1 H1 _ e1 k1 rh1 (wk_rev rv1 (lst_ref q2))

/-! ### targets -/
def LG (M : Mo) (m : List Addr) (H : Hp) (Q : L2.St → Hp → Prop) : Loc → PH → Prop := fun l' h' => ∀ (m' : List Addr) (H' : Hp) (σ' : L2.St), Ex m m' → Kp M.K H H' → RH M H' m' h' → RL M.K H' m' l' σ' → Q σ' H'
def tG (M : Mo) (d : PV → Loc → PH → (Loc → PH → Prop) → Prop) : TG := fun w σ H Q => ∃ m l h v, RH M H m h ∧ RL M.K H m l σ ∧ RV M.K H m v w ∧ d v l h (LG M m H Q)
def tGs (M : Mo) (d : List PV → Loc → PH → (Loc → PH → Prop) → Prop) : TGs := fun w σ H Q => ∃ m l h v, RH M H m h ∧ RL M.K H m l σ ∧ RVs M.K H m v w ∧ d v l h (LG M m H Q)
theorem LG.mono {m m1 : List Addr} {H H1 : Hp} {Q : L2.St → Hp → Prop} (e : Ex m m1) (k : Kp M.K H H1) : ∀ a b, LG M m H Q a b → LG M m1 H1 Q a b := fun a b q m' H' σ' e' k' r rl => q m' H' σ' (e.trans e') (k.trans k') r rl
theorem loc_of {dc : Bool} {X : Cx} {N : List Str} {sc : Sco} {W : WX} (g : Good M X N sc W k) (hc : dc = true → ∀ x, sc.lookup x = some .cell → X.fn x = true) {x : Str} (h : locB dc sc x = true) : L2.Loc X.env.scope x ∧ (X.fn x = true ∨ X.env.scope.names.lookup x = some .local) := by
  unfold locB at h
  unfold L2.Loc
  rw [g.sc]
  split at h
  · rename_i e; exact ⟨.inl e, .inr e⟩
  · rename_i e; exact ⟨.inr e, .inl (hc h x e)⟩
  · cases h
theorem RL.set {K : PySem.W.Frag} {H : Hp} {m : List Addr} {l : Py.Loc} {σ : L2.St} {i : Nat} {v : PV} {w : V} (r : RL K H m l σ) (rv : RV K H m v w) : RL K H m (l.set i (some v)) (σ.set i (some w)) := by
  refine ⟨by simp [r.1], fun j u e => ?_⟩
  by_cases h : j = i
  · subst h
    have hl := (List.getElem?_eq_some_iff.mp e).1
    rw [List.length_set] at hl
    rw [List.getElem?_set_self hl] at e
    cases e
    exact ⟨w, List.getElem?_set_self (by rw [← r.1]; exact hl), rv⟩
  · rw [List.getElem?_set_ne (Ne.symm h)] at e
    obtain ⟨z, e2, e3⟩ := r.2 j u e
    exact ⟨z, by rw [List.getElem?_set_ne (Ne.symm h)]; exact e2, e3⟩
theorem as_each {dc : Bool} {N : List Str} {sc : Sco} {t : T} {x : Expr} (h : mT dc N sc t x = true) (env : Env) (r : List Expr) : assignEach (x :: r) env = (false, assign x env) :: assignEach r env := by
  cases x <;> first | rfl | (cases t <;> exact absurd h Bool.false_ne_true)
theorem as_len {dc : Bool} {N : List Str} {sc : Sco} (env : Env) : ∀ {ts : Ts} {xs : List Expr}, mTs dc N sc ts xs = true → (assignEach xs env).length = xs.length ∧ (assignEach xs env).findIdx? (·.1) = none
  | .nil, [], _ => ⟨rfl, rfl⟩
  | .nil, _ :: _, h => absurd h Bool.false_ne_true
  | .cons _ _, [], h => absurd h Bool.false_ne_true
  | .cons t ts, x :: xs, h => by
    obtain ⟨h1, h2⟩ := ba h
    obtain ⟨e1, e2⟩ := as_len env h2
    rw [as_each h1 env]
    exact ⟨congrArg Nat.succ e1, by rw [List.findIdx?_cons, e2] <;> rfl⟩
theorem lenTs_of {dc : Bool} {N : List Str} {sc : Sco} : ∀ {ts : Ts} {xs : List Expr}, mTs dc N sc ts xs = true → lenTs ts = xs.length
  | .nil, [], _ => rfl
  | .nil, _ :: _, h => absurd h Bool.false_ne_true
  | .cons _ _, [], h => absurd h Bool.false_ne_true
  | .cons t ts, x :: xs, h => congrArg Nat.succ (lenTs_of (ba h).2)
end
section
variable {M : Mo} {k : Nat}
mutual
theorem sG : ∀ (t : T) (dc : Bool) (X : Cx) (N : List Str) (sc : Sco) (W : WX) (Y : KX) (x : Expr), Good M X N sc W k → (dc = true → ∀ x, sc.lookup x = some .cell → X.fn x = true) → mT dc N sc t x = true → PG X x (tG M fun v => evG M.G (callS M.G k) Y t v)
  | .nm i, dc, X, N, sc, W, Y, x, g, hc, hm => by
    cases x <;> first | exact absurd hm Bool.false_ne_true | skip
    obtain ⟨h1, h2⟩ := ba hm
    obtain ⟨l1, l2⟩ := loc_of g hc h2
    refine (pg_name (i := i) (by rw [g.hN]; exact g.nd) (by rw [g.hN]; exact of_decide_eq_true h1) l1 l2).wk fun w σ H Q q => ?_
    obtain ⟨m, l, h, v, rh, rl, rv, q⟩ := q
    exact q.2 m H _ (Ex.refl m) (Kp.refl _ H) rh (rl.set rv)
  | .tup ts, dc, X, N, sc, W, Y, x, g, hc, hm => by
    cases x <;> first | exact absurd hm Bool.false_ne_true | skip
    rename_i xs kk pos
    have hm : mTs dc N sc ts xs = true := hm
    obtain ⟨a1, a2⟩ := as_len X.env hm
    refine (pg_tup (n := xs.length) g.calm (sGs ts dc X N sc W Y xs g hc hm) a1 a2).wk fun w σ H Q q => ?_
    obtain ⟨m, l, h, v, rh, rl, rv, vs, rfl, el, q⟩ := q
    obtain ⟨p, ws, rfl, e1, e2⟩ := rv
    exact ⟨p, ws, rfl, by rw [g.hK]; exact e1, by rw [← e2.len, el]; exact lenTs_of hm, m, l, h, vs, rh, rl, e2, q⟩
  | .attr _ _, dc, X, N, sc, W, Y, x, g, hc, hm => absurd hm (by cases x <;> exact Bool.false_ne_true)
  | .sub _ _, dc, X, N, sc, W, Y, x, g, hc, hm => absurd hm (by cases x <;> exact Bool.false_ne_true)
theorem sGs : ∀ (ts : Ts) (dc : Bool) (X : Cx) (N : List Str) (sc : Sco) (W : WX) (Y : KX) (xs : List Expr), Good M X N sc W k → (dc = true → ∀ x, sc.lookup x = some .cell → X.fn x = true) → mTs dc N sc ts xs = true → PGs X xs (tGs M fun v => evGs M.G (callS M.G k) Y ts v)
  | .nil, dc, X, N, sc, W, Y, [], g, hc, hm => pgs_nil.wk fun w σ H Q q => by
    obtain ⟨m, l, h, v, rh, rl, rv, e, q⟩ := q
    subst e
    exact ⟨rv, q m H σ (Ex.refl m) (Kp.refl _ H) rh rl⟩
  | .nil, dc, X, N, sc, W, Y, _ :: _, g, hc, hm => absurd hm Bool.false_ne_true
  | .cons _ _, dc, X, N, sc, W, Y, [], g, hc, hm => absurd hm Bool.false_ne_true
  | .cons t ts, dc, X, N, sc, W, Y, x :: xs, g, hc, hm => by
    obtain ⟨h1, h2⟩ := ba hm
    refine (pgs_cons (sG t dc X N sc W Y x g hc h1) (sGs ts dc X N sc W Y xs g hc h2) (by rw [as_each h1 X.env] <;> rfl)).wk fun w σ H Q q => ?_
    obtain ⟨m, l, h, v, rh, rl, rv, y, r, e, q⟩ := q
    subst e
    obtain ⟨w1, wr, rfl, r1, r2⟩ := rv
    refine ⟨w1, wr, rfl, m, l, h, y, rh, rl, r1, evG_mono (csle M k) (fun _ _ z => z) t y l h _ _ (fun l1 h1 q1 m1 H1 σ1 e1 k1 rh1 rl1 => ?_) q⟩
    exact ⟨m1, l1, h1, r, rh1, rl1, r2.mono k1 e1, evGs_mono (csle M k) (fun _ _ z => z) ts r l1 h1 _ _ (fun l2 h2 => LG.mono e1 k1 l2 h2) q1⟩
end
end
end Py

set_option Elab.async false
set_option linter.all false
set_option maxRecDepth 100000
set_option maxHeartbeats 4000000
/-! PySound6: statements. -/
namespace Py
open PySem PySem.Spec PyProof.Rows L2
def tupTup : Expr → Expr → Bool
  | .Tuple .., .Tuple .. => true
  | .List .., .Tuple .. => true
  | _, _ => false
def notComp : Expr → Bool
  | .ListComp .. => false
  | .SetComp .. => false
  | .DictComp .. => false
  | _ => true
mutual
def mS (M : Me) (dc : Bool) (N : List Str) (sc : Sco) : S → Stmt → Bool
  | .asg t e, .Assign [x] y _ => (mT dc N sc t x && mE M N sc e y) && (!tupTup x y && notComp y)
  | .aug i o e, .AugAssign (.Name x _) p y _ => (decide (N[i]? = some x) && locB dc sc x) && (bopB o p && mE M N sc e y)
  | .exp e, .Expr y _ => mE M N sc e y && notComp y
  | .ret e, .Return (some y) _ => mE M N sc e y
  | .retN, .Return none _ => true
  | .ife c a b, .If x xs ys _ => mC M N sc c x && (mB M dc N sc a xs && mB M dc N sc b ys)
  | .for t it b, .For tg x xs [] _ => (mI M N sc tg it x && mT dc N sc t tg) && mB M dc N sc b xs
  | .whl c b, .While x xs [] _ => mC M N sc c x && mB M dc N sc b xs
  | .pas, .Pass _ => true
  | .cont, .Continue _ => true
  | _, _ => false
def mB (M : Me) (dc : Bool) (N : List Str) (sc : Sco) : B → List Stmt → Bool
  | .nil, [] => true
  | .cons s b, x :: xs => mS M dc N sc s x && mB M dc N sc b xs
  | _, _ => false
end
def LN (M : Mo) (W : WX) (m : List Addr) (H : Hp) (D : Ends) : En where
  nx := LG M m H D.nx
  rt := LQ M m H D.rt
  ct := LG M m H D.ct
  ex := fun x l' h' => ∀ (m' : List Addr) (H' : Hp) (σ' : L2.St) (cls : Value) (d : Option Addr), Ex m m' → Kp M.K H H' → RH M H' m' h' → RL M.K H' m' l' σ' → RX M H' m' x cls d → W cls d σ' H'
theorem LN.le {M : Mo} {W : WX} {m m1 : List Addr} {H H1 : Hp} {D : Ends} (e : Ex m m1) (k : Kp M.K H H1) : Enle (LN M W m H D) (LN M W m1 H1 D) :=
  ⟨LG.mono e k, LQ.mono e k, LG.mono e k, fun x l h q m' H' σ' c d e' k' r rl rx => q m' H' σ' c d (e.trans e') (k.trans k') r rl rx⟩
theorem LN.ex_ {M : Mo} {W : WX} {m m1 : List Addr} {H H1 : Hp} {D : Ends} {l : Py.Loc} {σ : L2.St} (e : Ex m m1) (k : Kp M.K H H1) (rl : RL M.K H1 m1 l σ) : ∀ x h, (LN M W m H D).ex x l h → LX M W σ m1 H1 x h :=
  fun x h q m' H' c d e' k' r rx => q m' H' σ c d (e.trans e') (k.trans k') r (rl.mono k' e') rx
abbrev DS := Py.Loc → PH → En → Prop
def tS (M : Mo) (W : WX) (d : DS) : TS := fun D σ H => ∃ m l h, RH M H m h ∧ RL M.K H m l σ ∧ d l h (LN M W m H D)
structure GoodS (M : Mo) (X : Cx) (N : List Str) (sc : Sco) (W : WX) (k : Nat) (dc : Bool) : Prop where
  g : Good M X N sc W k
  pas : PassesOwn (model X.prog X.w) X.A X.env X.xe
  cel : dc = true → ∀ x, sc.lookup x = some .cell → X.fn x = true
theorem notComp_sw {y : Expr} {t : Option Expr} {n : Nat} {env : Env} (h : notComp y = true) : swapsWith y t n env = pure false := by
  cases y <;> first | rfl | exact absurd h Bool.false_ne_true
theorem sw_none {x y : Expr} {env : Env} (h : tupTup x y = false) : swappedStores [x] y env = pure none := by
  cases x <;> first | rfl | (cases y <;> first | rfl | cases h)
theorem fold_of {x : Expr} {env : Env} (h : notSet x = true) : ∀ v, foldedSetIterable x env v = pure v := by
  cases x <;> first | (intro _; rfl) | exact absurd h Bool.false_ne_true
section
variable {M : Mo} {k : Nat}
theorem drop_cons {α : Type} {xs : List α} {i : Nat} {x : α} (h : xs[i]? = some x) : xs.drop i = x :: xs.drop (i + 1) := by
  obtain ⟨h1, h2⟩ := List.getElem?_eq_some_iff.mp h
  rw [List.drop_eq_getElem_cons h1, h2]
mutual
theorem sS : ∀ (s : S) (X : Cx) (N : List Str) (sc : Sco) (W : WX) (dc : Bool) (x : Stmt), GoodS M X N sc W k dc → mS M.toMe dc N sc s x = true → PS X x (tS M W fun l h D => evS M.G (callS M.G k) s l h D)
  | .asg t e, X, N, sc, W, dc, x, g, hm => by
    cases x <;> first | exact absurd hm Bool.false_ne_true | skip
    rename_i tg y pos
    match tg, hm with
    | [], hm => exact absurd hm Bool.false_ne_true
    | _ :: _ :: _, hm => exact absurd hm Bool.false_ne_true
    | [z], hm =>
      obtain ⟨h12, h34⟩ := ba hm
      obtain ⟨h1, h2⟩ := ba h12
      obtain ⟨h3, h4⟩ := ba h34
      refine (ps_asg (sE e X N sc W y g.g h2) (sG t dc X N sc W (fun _ _ => True) z g.g g.cel h1) (notComp_sw h4) (sw_none (nb h3)) (by rw [as_each h1 X.env []] <;> rfl)).wk fun D σ H q => ?_
      obtain ⟨m, l, h, rh, rl, q⟩ := q
      refine tE_in rh rl (LN.ex_ (Ex.refl m) (Kp.refl _ H) rl) q fun m1 H1 v w h1 e1 k1 rh1 rl1 rv1 q1 => ?_
      exact ⟨m1, l, h1, v, rh1, rl1, rv1, evG_mono (csle M k) (fun _ _ _ => trivial) t v l h1 _ _ (LG.mono e1 k1) q1⟩
  | .aug i o e, X, N, sc, W, dc, x, g, hm => by
    cases x <;> first | exact absurd hm Bool.false_ne_true | skip
    rename_i tg p y pos
    cases tg <;> first | exact absurd hm Bool.false_ne_true | skip
    obtain ⟨h12, h34⟩ := ba hm
    obtain ⟨h1, h2⟩ := ba h12
    obtain ⟨h3, h4⟩ := ba h34
    have eo := of_decide_eq_true h3
    subst eo
    obtain ⟨l1, l2⟩ := loc_of g.g g.cel h2
    refine (ps_aug (i := i) (ti := r2 M (augV o)) (by rw [g.g.hN]; exact g.g.nd) (by rw [g.g.hN]; exact of_decide_eq_true h1) l1 (sE e X N sc W y g.g h4) (fun pins s σ H x y v u Q I r1 r2 h => sA o pins s σ H x y v u Q I r1 r2 h) l2).wk fun D σ H q => ?_
    obtain ⟨m, l, h, rh, rl, x, ex, q⟩ := q
    obtain ⟨w0, e0, r0⟩ := rl.2 i x ex
    refine ⟨w0, e0, ?_⟩
    refine tE_in rh rl (LN.ex_ (Ex.refl m) (Kp.refl _ H) rl) q fun m1 H1 v w h1 e1 k1 rh1 rl1 rv1 q1 => ?_
    refine ⟨m1, h1, x, v, rh1, r0.mono k1 e1, rv1, augV_mono (fun z h2 q2 m2 H2 w2 e2 k2 rh2 rv2 => ?_) q1⟩
    exact q2 m2 H2 _ (e1.trans e2) (k1.trans k2) rh2 ((rl1.mono k2 e2).set rv2)
  | .exp e, X, N, sc, W, dc, x, g, hm => by
    cases x <;> first | exact absurd hm Bool.false_ne_true | skip
    rename_i y pos
    obtain ⟨h1, h2⟩ := ba hm
    refine (ps_expr (sE e X N sc W y g.g h1) (notComp_sw h2)).wk fun D σ H q => ?_
    obtain ⟨m, l, h, rh, rl, q⟩ := q
    refine tE_in rh rl (LN.ex_ (Ex.refl m) (Kp.refl _ H) rl) q fun m1 H1 v w h1 e1 k1 rh1 rl1 rv1 q1 => ?_
    exact q1 m1 H1 σ e1 k1 rh1 rl1
  | .ret e, X, N, sc, W, dc, x, g, hm => by
    cases x <;> first | exact absurd hm Bool.false_ne_true | skip
    rename_i y pos
    cases y <;> first | exact absurd hm Bool.false_ne_true | skip
    refine (ps_ret (sE e X N sc W _ g.g hm)).wk fun D σ H q => ?_
    obtain ⟨m, l, h, rh, rl, q⟩ := q
    exact tE_in rh rl (LN.ex_ (Ex.refl m) (Kp.refl _ H) rl) q fun m1 H1 v w h1 e1 k1 rh1 rl1 rv1 q1 => (LQ.mono e1 k1 _ _ q1).at rh1 rv1
  | .retN, X, N, sc, W, dc, x, g, hm => by
    cases x <;> first | exact absurd hm Bool.false_ne_true | skip
    rename_i y pos
    cases y <;> first | exact absurd hm Bool.false_ne_true | skip
    exact ps_retN.wk fun D σ H ⟨m, l, h, rh, rl, q⟩ => LQ.at q rh rfl
  | .ife c a b, X, N, sc, W, dc, x, g, hm => by
    cases x <;> first | exact absurd hm Bool.false_ne_true | skip
    rename_i y xs ys pos
    obtain ⟨h1, h23⟩ := ba hm
    obtain ⟨h2, h3⟩ := ba h23
    refine (ps_if (sT c X N sc W y g.g h1).1 (sBk a X N sc W dc xs g h2) (sBk b X N sc W dc ys g h3)).wk fun D σ H q => ?_
    obtain ⟨m, l, h, rh, rl, q⟩ := q
    refine tT_in rh rl (LN.ex_ (Ex.refl m) (Kp.refl _ H) rl) q fun m1 H1 r h1 e1 k1 rh1 rl1 q1 => ?_
    cases r with
    | true => exact ⟨m1, l, h1, rh1, rl1, evB_mono (csle M k) a l h1 _ _ (LN.le e1 k1) q1⟩
    | false => exact ⟨m1, l, h1, rh1, rl1, evB_mono (csle M k) b l h1 _ _ (LN.le e1 k1) q1⟩
  | .for t it b, X, N, sc, W, dc, x, g, hm => by
    cases x <;> first | exact absurd hm Bool.false_ne_true | skip
    rename_i tg y xs ys pos
    cases ys <;> first | exact absurd hm Bool.false_ne_true | skip
    obtain ⟨h12, h3⟩ := ba hm
    obtain ⟨h1, h2⟩ := ba h12
    obtain ⟨hi, hn⟩ := sI it X N sc W tg y g.g h1
    refine (ps_for g.pas g.g.calm hi (sG t dc X N sc W (fun _ _ => True) tg g.g g.cel h2) (sBk b X N sc W dc xs g h3) (fold_of hn)).wk fun D σ H q => ?_
    obtain ⟨m, l, h, rh, rl, q⟩ := q
    refine ⟨m, l, h, rh, rl, evI_mono (csle M k) (LN.ex_ (Ex.refl m) (Kp.refl _ H) rl) it l h _ _ (fun items live h1 q1 m1 H1 J e1 k1 rh1 wk => ?_) q⟩
    obtain ⟨G, Y, w, wG, wY⟩ := wk.ex
    refine for_it w (fun i σ' H' => ∃ m' l' h', Ex m1 m' ∧ Kp M.K H1 H' ∧ RH M H' m' h' ∧ RL M.K H' m' l' σ' ∧
      iterL live (fun v l' h' K => evG M.G (callS M.G k) (fun x h' => (LN M W m H D).ex x l' h') t v l' h' fun l2 h2 => evB M.G (callS M.G k) b l2 h2 { LN M W m H D with nx := K, ct := K }) (LN M W m H D).nx (items.drop i) l' h') ?_ ?_ ?_ ?_
    · exact ⟨m1, l, h1, Ex.refl m1, Kp.refl _ H1, rh1, rl.mono k1 e1, q1⟩
    · rintro i σ' H' hi ⟨m', l', h', e2, k2, rh2, rl2, q2⟩
      refine wG m' H' h' e2 k2 rh2 ?_
      generalize items.drop i = ds at q2
      cases ds with
      | nil => exact q2.1
      | cons _ _ => exact q2.1
    · rintro i x σ' H' H'' hi ⟨m', l', h', e2, k2, rh2, rl2, q2⟩ y
      have hlt : i < items.length := hi
      have lv : live h' := by
        generalize items.drop i = ds at q2
        cases ds with
        | nil => exact q2.1
        | cons _ _ => exact q2.1
      obtain ⟨v, ev, rh3, k3, rv3⟩ := wY i m' H' h' x H'' e2 k2 rh2 lv hlt y
      rw [drop_cons ev] at q2
      have e13 := e1.trans e2
      have k13 := (k1.trans k2).trans k3
      refine ⟨m', l', h', v, rh3, rl2.mono k3 (Ex.refl m'), rv3, evG_mono (csle M k) (fun _ _ _ => trivial) t v l' h' _ _ (fun l4 h4 q4 m4 H4 σ4 e4 k4 rh4 rl4 => ?_) q2.2⟩
      refine ⟨m4, l4, h4, rh4, rl4, evB_mono (csle M k) b l4 h4 _ _ ?_ q4⟩
      have e14 := e13.trans e4
      have k14 := k13.trans k4
      have again : ∀ (l5 : Py.Loc) (h5 : PH), iterL live (fun v l' h' K => evG M.G (callS M.G k) (fun x h' => (LN M W m H D).ex x l' h') t v l' h' fun l2 h2 => evB M.G (callS M.G k) b l2 h2 { LN M W m H D with nx := K, ct := K }) (LN M W m H D).nx (items.drop (i + 1)) l5 h5 →
          LG M m4 H4 (fun σ' H' => ∃ m' l' h', Ex m1 m' ∧ Kp M.K H1 H' ∧ RH M H' m' h' ∧ RL M.K H' m' l' σ' ∧
            iterL live (fun v l' h' K => evG M.G (callS M.G k) (fun x h' => (LN M W m H D).ex x l' h') t v l' h' fun l2 h2 => evB M.G (callS M.G k) b l2 h2 { LN M W m H D with nx := K, ct := K }) (LN M W m H D).nx (items.drop (i + 1)) l' h') l5 h5 :=
        fun l5 h5 q5 m5 H5 σ5 e5 k5 rh5 rl5 => ⟨m5, l5, h5, (e2.trans e4).trans e5, ((k2.trans k3).trans k4).trans k5, rh5, rl5, q5⟩
      exact ⟨again, LQ.mono e14 k14, again, (LN.le (D := D) (W := W) e14 k14).ex⟩
    · rintro σ' H' ⟨m', l', h', e2, k2, rh2, rl2, q2⟩
      rw [List.drop_length] at q2
      exact q2.2 m' H' σ' (e1.trans e2) (k1.trans k2) rh2 rl2
  | .whl c b, X, N, sc, W, dc, x, g, hm => by
    cases x <;> first | exact absurd hm Bool.false_ne_true | skip
    rename_i y xs ys pos
    cases ys <;> first | exact absurd hm Bool.false_ne_true | skip
    obtain ⟨h1, h2⟩ := ba hm
    refine (ps_while g.pas (sT c X N sc W y g.g h1).1 (sBk b X N sc W dc xs g h2)).wk fun D σ H q => ?_
    obtain ⟨m, l, h, rh, rl, n, q⟩ := q
    refine ⟨fun n σ' H' => ∃ m' l' h', Ex m m' ∧ Kp M.K H H' ∧ RH M H' m' h' ∧ RL M.K H' m' l' σ' ∧
      whlN (fun l' h' K => evT M.G (callS M.G k) (fun x h' => (LN M W m H D).ex x l' h') c l' h' fun r h1 => if r = true then evB M.G (callS M.G k) b l' h1 { LN M W m H D with nx := K, ct := K } else (LN M W m H D).nx l' h1) n l' h',
      ⟨n, m, l, h, Ex.refl m, Kp.refl _ H, rh, rl, q⟩, ?_⟩
    rintro n σ' H' ⟨m', l', h', e2, k2, rh2, rl2, q2⟩
    cases n with
    | zero => exact (show False from q2).elim
    | succ n =>
      refine tT_in rh2 rl2 (LN.ex_ e2 k2 rl2) q2 fun m3 H3 r h3 e3 k3 rh3 rl3 q3 => ?_
      have e13 := e2.trans e3
      have k13 := k2.trans k3
      cases r with
      | false => exact q3 m3 H3 σ' e13 k13 rh3 rl3
      | true =>
        refine ⟨_, fun σ5 H5 z => ⟨n, Nat.lt_succ_self n, z⟩, m3, l', h3, rh3, rl3, evB_mono (csle M k) b l' h3 _ _ ?_ q3⟩
        have again : ∀ (l5 : Py.Loc) (h5 : PH), whlN (fun l' h' K => evT M.G (callS M.G k) (fun x h' => (LN M W m H D).ex x l' h') c l' h' fun r h1 => if r = true then evB M.G (callS M.G k) b l' h1 { LN M W m H D with nx := K, ct := K } else (LN M W m H D).nx l' h1) n l5 h5 →
            LG M m3 H3 (fun σ' H' => ∃ m' l' h', Ex m m' ∧ Kp M.K H H' ∧ RH M H' m' h' ∧ RL M.K H' m' l' σ' ∧
              whlN (fun l' h' K => evT M.G (callS M.G k) (fun x h' => (LN M W m H D).ex x l' h') c l' h' fun r h1 => if r = true then evB M.G (callS M.G k) b l' h1 { LN M W m H D with nx := K, ct := K } else (LN M W m H D).nx l' h1) n l' h') l5 h5 :=
          fun l5 h5 q5 m5 H5 σ5 e5 k5 rh5 rl5 => ⟨m5, l5, h5, e13.trans e5, k13.trans k5, rh5, rl5, q5⟩
        exact ⟨again, LQ.mono e13 k13, again, (LN.le (D := D) (W := W) e13 k13).ex⟩
  | .pas, X, N, sc, W, dc, x, g, hm => by
    cases x <;> first | exact absurd hm Bool.false_ne_true | skip
    exact ps_pass.wk fun D σ H ⟨m, l, h, rh, rl, q⟩ => q m H σ (Ex.refl m) (Kp.refl _ H) rh rl
  | .cont, X, N, sc, W, dc, x, g, hm => by
    cases x <;> first | exact absurd hm Bool.false_ne_true | skip
    exact ps_continue.wk fun D σ H ⟨m, l, h, rh, rl, q⟩ => q m H σ (Ex.refl m) (Kp.refl _ H) rh rl
  | .augF _ _ _ _, X, N, sc, W, dc, x, g, hm => absurd hm (by cases x <;> exact Bool.false_ne_true)
  | .augS _ _ _ _, X, N, sc, W, dc, x, g, hm => absurd hm (by cases x <;> exact Bool.false_ne_true)
  | .rais _ _, X, N, sc, W, dc, x, g, hm => absurd hm (by cases x <;> exact Bool.false_ne_true)
theorem sBk : ∀ (b : B) (X : Cx) (N : List Str) (sc : Sco) (W : WX) (dc : Bool) (xs : List Stmt), GoodS M X N sc W k dc → mB M.toMe dc N sc b xs = true → PSs X xs (tS M W fun l h D => evB M.G (callS M.G k) b l h D)
  | .nil, X, N, sc, W, dc, [], g, hm => pss_nil.wk fun D σ H ⟨m, l, h, rh, rl, q⟩ => q m H σ (Ex.refl m) (Kp.refl _ H) rh rl
  | .nil, X, N, sc, W, dc, _ :: _, g, hm => absurd hm Bool.false_ne_true
  | .cons _ _, X, N, sc, W, dc, [], g, hm => absurd hm Bool.false_ne_true
  | .cons s b, X, N, sc, W, dc, x :: xs, g, hm => by
    obtain ⟨h1, h2⟩ := ba hm
    refine (pss_cons (sS s X N sc W dc x g h1) (sBk b X N sc W dc xs g h2)).wk fun D σ H q => ?_
    obtain ⟨m, l, h, rh, rl, q⟩ := q
    refine ⟨m, l, h, rh, rl, evS_mono (csle M k) s l h { LN M W m H D with nx := fun l' h' => evB M.G (callS M.G k) b l' h' (LN M W m H D) } _ ⟨fun l1 h1 q1 m1 H1 σ1 e1 k1 rh1 rl1 => ?_, fun _ _ z => z, fun _ _ z => z, fun _ _ _ z => z⟩ q⟩
    exact ⟨m1, l1, h1, rh1, rl1, evB_mono (csle M k) b l1 h1 _ _ (LN.le e1 k1) q1⟩
end
end
end Py

set_option Elab.async false
set_option linter.all false
set_option maxRecDepth 100000
set_option maxHeartbeats 4000000
/-! PySound7: defs, the law. -/
namespace Py
open PySem PySem.Spec PyProof.Rows L2
/-- what is known of a def of the text -/
structure Ent (M : Mo) (f : Nat) (d : FD) : Prop where
  ex : ∃ (x qual : Str) (params : Arguments) (body : List Stmt) (scope : Scope) (dvs : List V) (kws : List (Str × V)) (N ps : List Str) (fd : FuncData),
    FunD M.K x qual params body scope dvs kws (M.fa f) fd ∧ FnScope N ps scope ∧ ps.length = d.np ∧ N.length = d.ns ∧ mB M.toMe true N scope.names d.body body = true ∧ Dfl M fd ps d
theorem start_rl {K : PySem.W.Frag} {H : Hp} {m : List Addr} {d : FD} {N : List Str} {args : List PV} {vs : List V} (rv : RVs K H m args vs) (hN : N.length = d.ns) : RL K H m (startL d args) (L2.start N vs) := by
  unfold startL L2.start
  have el := rv.len
  refine ⟨by simp [el, hN], fun i v e => ?_⟩
  by_cases hi : i < args.length
  · rw [List.getElem?_append_left (by simpa using hi), List.getElem?_map] at e
    cases ea : args[i]? with
    | none => rw [ea] at e; cases e
    | some a =>
      rw [ea] at e
      have e' : a = v := Option.some.inj (Option.some.inj e)
      subst e'
      obtain ⟨w, e2, r⟩ := rv.get ea
      exact ⟨w, by rw [List.getElem?_append_left (by simpa [← el] using hi), List.getElem?_map, e2] <;> rfl, r⟩
  · rw [List.getElem?_append_right (by simpa using hi), List.getElem?_replicate] at e
    split at e <;> cases e
section
variable {M : Mo} {P : Program} {w : World} {mg : Str → Option Value} {base : Heap}
theorem fn_one (glo : Glo M mg) (fng : ∀ f, M.gf f = true → mg (M.nm f) = some (.ref (M.fa f))) {k f : Nat} {d : FD} (hf : M.G.fn f = some d) (ih : ∀ f d, M.G.fn f = some d → FnC M P w mg base k f d (M.fa f))
    {x qual : Str} {params : Arguments} {body : List Stmt} {scope : Scope} {dvs : List V} {kws : List (Str × V)} {N ps : List Str} {fd : FuncData}
    (F : FunD M.K x qual params body scope dvs kws (M.fa f) fd) (S : FnScope N ps scope) (h1 : ps.length = d.np) (h2 : N.length = d.ns) (h3 : mB M.toMe true N scope.names d.body body = true) :
    FnOk P w M.K mg base (L2.CX P w) (k + 1) (M.fa f) fd ps (spF M (k + 1) f d.np) := by
  refine F.ok S (fun vs H Q E ⟨m, h, args, _, rv, hl, q⟩ => by rw [← rv.len, hl, h1]) (fun cdv A outer s H vs Q E hr hsp => ?_)
  obtain ⟨m, h, args, rh, rv, hl, q⟩ := hsp
  have g : GoodS M (cxOf (L2.CX P w) P w M.K mg base N qual scope (M.fa f) cdv A outer s H E) N scope.names (fun cls d _ H => E cls d H) k true :=
    ⟨⟨rfl, S.nd, rfl, rfl, rfl, takes_of rfl rfl rfl rfl, hr, glo, fun f d hf => ih f d hf, fng⟩, passes_of rfl, fun _ _ _ => rfl⟩
  refine ⟨_, sBk d.body _ N scope.names _ true body g h3, ?_⟩
  obtain ⟨d', hf', l1, l2, q⟩ := q
  rw [hf] at hf'; cases hf'
  have e0 : fill d.dfl args d.np = args := by
    show args ++ d.dfl.drop (d.dfl.length - (d.np - args.length)) = args
    rw [hl, Nat.sub_self, Nat.sub_zero, List.drop_length, List.append_nil]
  rw [e0] at q
  refine ⟨m, startL d args, h, rh, start_rl rv h2, evB_mono (csle M k) d.body _ _ ⟨fun _ h' => LQ M m H Q .non h', LQ M m H Q, fun _ _ => False, fun x _ h' => LE M E m H x h'⟩ _ ⟨?_, ?_, ?_, ?_⟩ q⟩
  · exact fun l h q m' H' σ' e k r rl => q m' H' .non e k r rfl
  · exact fun v h q => q
  · exact fun l h q => (show False from q).elim
  · exact fun x l h q m' H' σ' c d e k r rl rx => q m' H' c d e k r rx
theorem funs_ok (glo : Glo M mg) (fng : ∀ f, M.gf f = true → mg (M.nm f) = some (.ref (M.fa f))) (hall : ∀ f d, M.G.fn f = some d → Ent M f d) :
    ∀ k f d, M.G.fn f = some d → FnC M P w mg base k f d (M.fa f)
  | 0, f, d, hf => by
    obtain ⟨x, qual, params, body, scope, dvs, kws, N, ps, fd, F, S, h1, h2, h3, h4⟩ := (hall f d hf).ex
    exact ⟨fd, ps, ⟨fun vs H Q E ⟨m, h, args, _, _, _, q⟩ => (show False from q).elim, fun A outer s H args us vs Q E _ _ _ _ ⟨m, h, as, _, _, _, q⟩ => (show False from q).elim⟩, F.kp, h4⟩
  | k + 1, f, d, hf => by
    have ih := funs_ok glo fng hall k
    obtain ⟨x, qual, params, body, scope, dvs, kws, N, ps, fd, F, S, h1, h2, h3, h4⟩ := (hall f d hf).ex
    exact ⟨fd, ps, fn_one glo fng hf ih F S h1 h2 h3, F.kp, h4⟩
theorem dfl0 {fd : FuncData} {ps : List Str} {d : FD} (b : Binds M.K fd ps []) (e : d.dfl = []) : Dfl M fd ps d := fun n hn hl => by
  rw [e]
  exact ⟨[], [], .nil, b, fun H m => by rw [List.drop_nil]; rfl⟩
/-- the law's promise -/
theorem law_sp {k fL : Nat} {dL : FD} {n : Nat} (hf : M.G.fn fL = some dL) (h1 : dL.np = 1)
    (law : ∀ ns : List Int, ns.length ≤ n → callS M.G k (.fn fL) [.ref 0] [.frl (ns.map PV.int)] (fun v _ => v = .bl true) (fun _ _ => False))
    (H : Hp) (a : Addr) (ns : List Int) (hl : ns.length ≤ n) (hO : Only H) (hS : SqL M.K H a (ns.map V.int)) : spF M k fL 1 [.ref a] H (fun v _ => v = .bl true) (fun _ _ _ => False) := by
  have rints : ∀ ns : List Int, RVs M.K H [a] (ns.map PV.int) (ns.map V.int) := fun ns => by
    induction ns with
    | nil => rfl
    | cons i r ih => exact ⟨_, _, rfl, rfl, ih⟩
  refine ⟨[a], [.frl (ns.map PV.int)], [.ref 0], ⟨rfl, fun b o p e1 e2 => ?_, fun b c p o u e1 e2 e3 e4 n1 n2 => ?_⟩, RVs.one ⟨a, rfl, rfl⟩, rfl, callS_mono (fun v h e m' H' w _ _ _ rv => ?_) (fun x h z => z.elim) (law ns hl)⟩
  · cases b with
    | zero =>
      cases (show PO.frl (ns.map PV.int) = o from Option.some.inj e1)
      cases (show a = p from Option.some.inj e2)
      refine ⟨ns.map V.int, ?_, rints ns⟩
      rcases hS with (hS | ⟨ob, hS⟩) | hS
      · rcases hO a with z | ⟨ob, xs, z⟩
        · rw [hS] at z; cases z
        · rw [hS] at z; cases z
      · exact .inl ⟨ob, hS⟩
      · exact .inr hS
    | succ b => simp at e1
  · cases b with
    | zero =>
      cases (show PO.frl (ns.map PV.int) = o from Option.some.inj e3)
      cases n1
    | succ b => simp at e3
  · subst e
    exact rv
end
theorem walk_ofG {l : PySem.W.OpenLaw} {n k : Nat} {q : Program} {loose : List Str} {XP : (Str → Option Value) → Heap → Prop} {YP : World → Heap → Prop} {d : DefRec} {x : Str}
    (hn : l.most = some n) (hn2 : n ≤ sizeLine) (hdf : d.params.defaults = []) (hr : Room k callerA)
    (F : ∀ (w : World) (mg : Str → Option Value) (fa : Addr) (h : Heap), YP w h → h.Ns mainGlobals mg → mg d.name = some (.ref fa) →
      ∃ (K : PySem.W.Frag) (fd : FuncData) (sp : Sp), K.In h ∧ (∀ (s : Shared) (u : Value), BindsTo s fd ⟨[u], []⟩ [(x, u)]) ∧
        (∀ (H : Hp) (a : Addr) (ns : List Int), ns.length ≤ n → Only H → SqL K H a (ns.map V.int) → sp [.ref a] H (fun v _ => v = .bl true) fun _ _ _ => False) ∧
        ∀ base : Heap, K.In base → base.Ns mainGlobals mg → FnOk l.prog w K mg base (L2.CX l.prog w) k fa fd [x] sp) :
    PySem.W.WalkO q loose XP YP l.row.toRowW d [] (fun f vs => PySem.call f vs) := by
  refine Att.attach_call hn hdf fun w s₀ s₁ mg mb fa o pm cd doc a vs ns G Y ho hd hcd hmg hobj hints hlen hg => ?_
  obtain ⟨K, fd, sp, KX, hb, hsp, hF⟩ := F w mg fa _ Y G.T.g hmg
  refine law_call KX G.T.g G.T.b G.T.builtins G.T.nolimit hg hobj hints (Nat.le_trans hlen hn2) hr hF hb (fun H hO hS => hsp H a ns hlen hO hS) fun H e s' c => ?_
  obtain ⟨_, _, _, _, _, _, _, _, _, _, _, _, z⟩ := c
  exact z
theorem SaysD.mem {fa : List He.Fa} {fn : List He.DefD} {K : PySem.W.Frag} (c : He.SaysD fa fn K) {f : He.Fa} (h : f ∈ fa) : f.ok K = true := by
  obtain ⟨i, e⟩ := List.getElem?_of_mem h
  exact c.fact i e
def getF (f : Nat) : List (Nat × FD) → Option FD
  | [] => none
  | (g, x) :: r => if g = f then some x else getF f r
def AllP {α : Type} (P : Nat → α → Prop) : List (Nat × α) → Prop
  | [] => True
  | (g, x) :: r => P g x ∧ AllP P r
theorem getF_all {P : Nat → FD → Prop} : ∀ {l : List (Nat × FD)}, AllP P l → ∀ {f d}, getF f l = some d → P f d
  | [], _, _, _, h => nomatch h
  | (g, x) :: r, ⟨a, b⟩, f, d, h => by
    unfold getF at h
    split at h
    · rename_i e; cases h; exact e ▸ a
    · exact getF_all b h
theorem getN_all {P : Nat → PV → Prop} : ∀ {l : List (Nat × PV)}, AllP P l → ∀ {f d}, getN f l = some d → P f d
  | [], _, _, _, h => nomatch h
  | (g, x) :: r, ⟨a, b⟩, f, d, h => by
    unfold getN at h
    split at h
    · rename_i e; cases h; exact e ▸ a
    · exact getN_all b h
/-- a constant of the module -/
def ConP (K : PySem.W.Frag) (mg : Str → Option Value) (nm : Nat → Str) (g : Nat) (v : PV) : Prop := ∃ u w, mg (nm g) = some u ∧ RelV w u ∧ ∀ H m, RV K H m v w
theorem con_int {K : PySem.W.Frag} {h : Heap} {mg : Str → Option Value} {nm : Nat → Str} {g : Nat} {i : Int} (X : K.In h) (G : h.Ns mainGlobals mg) (c : (He.Fa.int (nm g) i).ok K = true) : ConP K mg nm g (.int i) := by
  obtain ⟨t, e⟩ := He.int_ok X G c
  exact ⟨_, .int i, e, ⟨t, rfl⟩, fun H m => rfl⟩
theorem con_str {K : PySem.W.Frag} {h : Heap} {mg : Str → Option Value} {nm : Nat → Str} {g : Nat} {i : Str} (X : K.In h) (G : h.Ns mainGlobals mg) (c : (He.Fa.str (nm g) i).ok K = true) : ConP K mg nm g (.str i) := by
  obtain ⟨t, e⟩ := He.str_ok X G c
  exact ⟨_, .str i, e, ⟨t, rfl⟩, fun H m => rfl⟩
end Py

set_option linter.all false
set_option maxRecDepth 100000
/-! The text of law 40 in our syntax (printed by gen.py). -/
namespace Py
open PySem
abbrev n_within : Nat := 0
abbrev n_two_told : Nat := 1
abbrev n__law_mixed : Nat := 2
abbrev n__law_whole : Nat := 3
abbrev n__law_number : Nat := 4
abbrev n__law_beside : Nat := 5
abbrev n__law_told : Nat := 6
abbrev n__law_parted : Nat := 7
abbrev n_law : Nat := 8
abbrev n_GREATEST : Nat := 9
def tab0 : List Str := ["within", "two_told", "_law_mixed", "_law_whole", "_law_number", "_law_beside", "_law_told", "_law_parted", "law", "GREATEST"]
def nmT (i : Nat) : Str := (tab0).getD i ""
/-- within(number) -/
def b_within : B :=
  (.cons (.ife (.or (.cmp .lt (.var 0) (.bin .sub (.int 0) (.glob n_GREATEST))) (.cmp .gt (.var 0) (.glob n_GREATEST))) (.cons (.ret (.tup (.cons (.str "refused") (.cons (.str "great") .nil))))
  .nil) .nil)
  (.cons (.ret (.tup (.cons (.str "value") (.cons (.var 0) .nil))))
  .nil))
def d_within : FD := ⟨1, 1, b_within, []⟩
/-- two_told(sign, a, b) -/
def b_two_told : B :=
  (.cons (.ife (.cmp .eq (.var 0) (.str "+")) (.cons (.ret (.call n_within (.cons (.bin .add (.var 1) (.var 2)) .nil)))
  .nil) .nil)
  (.cons (.ife (.cmp .eq (.var 0) (.str "-")) (.cons (.ret (.call n_within (.cons (.bin .sub (.var 1) (.var 2)) .nil)))
  .nil) .nil)
  (.cons (.ife (.cmp .eq (.var 0) (.str "*")) (.cons (.ret (.call n_within (.cons (.bin .mul (.var 1) (.var 2)) .nil)))
  .nil) .nil)
  (.cons (.ife (.cmp .eq (.var 0) (.str "<")) (.cons (.ret (.tup (.cons (.str "value") (.cons (.cmp .lt (.var 1) (.var 2)) .nil))))
  .nil) .nil)
  (.cons (.ife (.cmp .eq (.var 0) (.str "=")) (.cons (.ret (.tup (.cons (.str "value") (.cons (.cmp .eq (.var 1) (.var 2)) .nil))))
  .nil) .nil)
  (.cons (.ife (.cmp .eq (.var 2) (.int 0)) (.cons (.ret (.tup (.cons (.str "refused") (.cons (.str "nought") .nil))))
  .nil) .nil)
  (.cons (.ret (.call n_within (.cons (.bin .fdiv (.var 1) (.var 2)) .nil)))
  .nil)))))))
def d_two_told : FD := ⟨3, 3, b_two_told, []⟩
/-- _law_mixed(_law_cell, _law_k) -/
def b__law_mixed : B :=
  (.cons (.ret (.bin .mod (.bin .add (.bin .add (.bin .add (.bin .mul (.var 0) (.int 48271)) (.bin .mul (.bin .mul (.int 104729) (.var 1)) (.var 1))) (.bin .mul (.int 7919) (.var 1))) (.int 12345)) (.int 2147483647)))
  .nil)
def d__law_mixed : FD := ⟨2, 2, b__law_mixed, []⟩
/-- _law_whole(_law_thing) -/
def b__law_whole : B :=
  (.cons (.ret (.and (.isi .isInt (.var 0)) (.nt (.isi .isBool (.var 0)))))
  .nil)
def d__law_whole : FD := ⟨1, 1, b__law_whole, []⟩
/-- _law_number(_law_cell, _law_more, _law_turned) -/
def b__law_number : B :=
  (.cons (.asg (.nm 1) (.bin .fdiv (.var 0) (.int 8)))
  (.cons (.asg (.nm 2) (.bin .sub (.int 1) (.bin .mul (.int 2) (.bin .mod (.bin .fdiv (.var 1) (.int 7)) (.int 2)))))
  (.cons (.ife (.cmp .eq (.bin .mod (.var 0) (.int 8)) (.int 0)) (.cons (.ret (.bin .sub (.bin .mod (.var 1) (.int 41)) (.int 20)))
  .nil) .nil)
  (.cons (.ife (.cmp .eq (.bin .mod (.var 0) (.int 8)) (.int 1)) (.cons (.ret (.bin .mul (.var 2) (.bin .sub (.bin .pow (.int 10) (.int 15)) (.bin .mod (.var 1) (.int 5)))))
  .nil) .nil)
  (.cons (.ife (.cmp .eq (.bin .mod (.var 0) (.int 8)) (.int 2)) (.cons (.ret (.bin .mul (.var 2) (.bin .sub (.bin .add (.int 31622776) (.bin .mod (.var 1) (.int 5))) (.int 2))))
  .nil) .nil)
  (.cons (.ife (.cmp .eq (.bin .mod (.var 0) (.int 8)) (.int 3)) (.cons (.ret (.bin .mul (.var 2) (.bin .sub (.bin .add (.bin .mul (.int 5) (.bin .pow (.int 10) (.int 14))) (.bin .mod (.var 1) (.int 5))) (.int 2))))
  .nil) .nil)
  (.cons (.ife (.cmp .eq (.bin .mod (.var 0) (.int 8)) (.int 4)) (.cons (.ret (.bin .sub (.bin .mod (.bin .mul (.bin .mul (.var 1) (.var 1)) (.int 7919)) (.bin .add (.bin .mul (.int 2) (.bin .pow (.int 10) (.int 15))) (.int 1))) (.bin .pow (.int 10) (.int 15))))
  .nil) .nil)
  (.cons (.ife (.cmp .eq (.bin .mod (.var 0) (.int 8)) (.int 5)) (.cons (.ret (.bin .sub (.bin .mod (.var 1) (.int 20001)) (.int 10000)))
  .nil) .nil)
  (.cons (.ife (.cmp .eq (.bin .mod (.var 0) (.int 8)) (.int 6)) (.cons (.ret (.bin .mul (.var 2) (.idx (.lst (.cons (.int 1) (.cons (.int 10) (.cons (.int 100) (.cons (.int 1000) (.cons (.bin .pow (.int 10) (.int 5)) (.cons (.bin .pow (.int 10) (.int 8)) (.cons (.bin .pow (.int 10) (.int 12)) (.cons (.bin .pow (.int 10) (.int 15)) .nil))))))))) (.bin .mod (.bin .fdiv (.var 1) (.int 14)) (.int 8)))))
  .nil) .nil)
  (.cons (.ret (.bin .sub (.bin .mod (.var 1) (.int 3)) (.int 1)))
  .nil))))))))))
def d__law_number : FD := ⟨1, 3, b__law_number, []⟩
/-- _law_beside(_law_cell, _law_a, _law_near) -/
def b__law_beside : B :=
  (.cons (.asg (.nm 2) (.bin .sub (.bin .mod (.bin .fdiv (.var 0) (.int 9)) (.int 5)) (.int 2)))
  (.cons (.ife (.cmp .eq (.bin .mod (.var 0) (.int 9)) (.int 1)) (.cons (.asg (.nm 2) (.bin .add (.bin .sub (.bin .pow (.int 10) (.int 15)) (.bf .abs (.cons (.var 1) .nil))) (.var 2)))
  .nil) (.cons (.ife (.cmp .eq (.bin .mod (.var 0) (.int 9)) (.int 2)) (.cons (.asg (.nm 2) (.bin .add (.bin .sub (.bf .abs (.cons (.var 1) .nil)) (.bin .pow (.int 10) (.int 15))) (.var 2)))
  .nil) (.cons (.ife (.and (.cmp .eq (.bin .mod (.var 0) (.int 9)) (.int 3)) (.cmp .ne (.var 1) (.int 0))) (.cons (.asg (.nm 2) (.bin .add (.bin .fdiv (.bin .pow (.int 10) (.int 15)) (.var 1)) (.var 2)))
  .nil) (.cons (.ife (.cmp .gt (.bin .mod (.var 0) (.int 9)) (.int 4)) (.cons (.asg (.nm 2) (.call n__law_number (.cons (.bin .fdiv (.var 0) (.int 9)) .nil)))
  .nil) .nil)
  .nil))
  .nil))
  .nil))
  (.cons (.ret (.bf .max2 (.cons (.bin .sub (.int 0) (.bin .pow (.int 10) (.int 15))) (.cons (.bf .min2 (.cons (.bin .pow (.int 10) (.int 15)) (.cons (.var 2) .nil))) .nil))))
  .nil)))
def d__law_beside : FD := ⟨2, 3, b__law_beside, []⟩
/-- _law_told(_law_number_here) -/
def b__law_told : B :=
  (.cons (.ife (.or (.cmp .lt (.var 0) (.bin .sub (.int 0) (.bin .pow (.int 10) (.int 15)))) (.cmp .gt (.var 0) (.bin .pow (.int 10) (.int 15)))) (.cons (.ret (.tup (.cons (.str "refused") (.cons (.str "great") .nil))))
  .nil) .nil)
  (.cons (.ret (.tup (.cons (.str "value") (.cons (.var 0) .nil))))
  .nil))
def d__law_told : FD := ⟨1, 1, b__law_told, []⟩
/-- _law_parted(_law_found, _law_a, _law_b) -/
def b__law_parted : B :=
  (.cons (.ife (.cmp .eq (.var 2) (.int 0)) (.cons (.ret (.cmp .eq (.var 0) (.tup (.cons (.str "refused") (.cons (.str "nought") .nil)))))
  .nil) .nil)
  (.cons (.ife (.or (.nt (.v (.isi .isTuple (.var 0)))) (.or (.cmp .ne (.bf .len (.cons (.var 0) .nil)) (.int 2)) (.or (.cmp .ne (.idx (.var 0) (.int 0)) (.str "value")) (.nt (.v (.call n__law_whole (.cons (.idx (.var 0) (.int 1)) .nil))))))) (.cons (.ret (.bl false))
  .nil) .nil)
  (.cons (.ife (.cmp .gt (.var 2) (.int 0)) (.cons (.ret (.chain .le .lt (.bin .mul (.idx (.var 0) (.int 1)) (.var 2)) (.var 1) (.bin .mul (.bin .add (.idx (.var 0) (.int 1)) (.int 1)) (.var 2))))
  .nil) .nil)
  (.cons (.ret (.chain .ge .gt (.bin .mul (.idx (.var 0) (.int 1)) (.var 2)) (.var 1) (.bin .mul (.bin .add (.idx (.var 0) (.int 1)) (.int 1)) (.var 2))))
  .nil))))
def d__law_parted : FD := ⟨3, 3, b__law_parted, []⟩
/-- law(_law_script, _law_k, _law_a, _law_b, _law_dues, _law_sign, _law_due, _law_found) -/
def b_law : B :=
  (.cons (.for (.nm 1) (.rng1 (.bf .min2 (.cons (.int 30) (.cons (.bf .len (.cons (.var 0) .nil)) .nil)))) (.cons (.asg (.nm 2) (.call n__law_number (.cons (.call n__law_mixed (.cons (.idx (.var 0) (.var 1)) (.cons (.var 1) .nil))) .nil)))
  (.cons (.asg (.nm 3) (.call n__law_beside (.cons (.call n__law_mixed (.cons (.idx (.var 0) (.var 1)) (.cons (.bin .add (.var 1) (.int 40)) .nil))) (.cons (.var 2) .nil))))
  (.cons (.asg (.nm 4) (.lst (.cons (.tup (.cons (.str "+") (.cons (.call n__law_told (.cons (.bin .add (.var 2) (.var 3)) .nil)) .nil))) (.cons (.tup (.cons (.str "-") (.cons (.call n__law_told (.cons (.bin .sub (.var 2) (.var 3)) .nil)) .nil))) (.cons (.tup (.cons (.str "*") (.cons (.call n__law_told (.cons (.bin .mul (.var 2) (.var 3)) .nil)) .nil))) .nil)))))
  (.cons (.for (.tup (.cons (.nm 5) (.cons (.nm 6) .nil))) (.seq (.var 4)) (.cons (.asg (.nm 7) (.call n_two_told (.cons (.var 5) (.cons (.var 2) (.cons (.var 3) .nil)))))
  (.cons (.ife (.or (.nt (.v (.isi .isTuple (.var 7)))) (.or (.cmp .ne (.var 7) (.var 6)) (.and (.cmp .eq (.idx (.var 6) (.int 0)) (.str "value")) (.nt (.v (.call n__law_whole (.cons (.idx (.var 7) (.int 1)) .nil))))))) (.cons (.ret (.bl false))
  .nil) .nil)
  .nil)))
  (.cons (.for (.tup (.cons (.nm 5) (.cons (.nm 6) .nil))) (.seq (.lst (.cons (.tup (.cons (.str "<") (.cons (.cmp .lt (.var 2) (.var 3)) .nil))) (.cons (.tup (.cons (.str "=") (.cons (.cmp .eq (.var 2) (.var 3)) .nil))) .nil)))) (.cons (.asg (.nm 7) (.call n_two_told (.cons (.var 5) (.cons (.var 2) (.cons (.var 3) .nil)))))
  (.cons (.ife (.or (.cmp .ne (.var 7) (.tup (.cons (.str "value") (.cons (.var 6) .nil)))) (.nt (.v (.isi .isBool (.idx (.var 7) (.int 1)))))) (.cons (.ret (.bl false))
  .nil) .nil)
  .nil)))
  (.cons (.ife (.nt (.v (.call n__law_parted (.cons (.call n_two_told (.cons (.str "/") (.cons (.var 2) (.cons (.var 3) .nil)))) (.cons (.var 2) (.cons (.var 3) .nil)))))) (.cons (.ret (.bl false))
  .nil) .nil)
  .nil)))))))
  (.cons (.ret (.cmp .eq (.glob n_GREATEST) (.bin .pow (.int 10) (.int 15))))
  .nil))
def d_law : FD := ⟨1, 8, b_law, []⟩
def fdsT : List (Nat × FD) := [(n_within, d_within), (n_two_told, d_two_told), (n__law_mixed, d__law_mixed), (n__law_whole, d__law_whole), (n__law_number, d__law_number), (n__law_beside, d__law_beside), (n__law_told, d__law_told), (n__law_parted, d__law_parted), (n_law, d_law)]
def conT : List (Nat × PV) := [(n_GREATEST, (.int 1000000000000000))]
def sgT : Sig := ⟨fun f => getF f fdsT, fun _ => none, fun g => getN g conT⟩
end Py

set_option Elab.async false
set_option linter.all false
set_option maxRecDepth 100000
set_option maxHeartbeats 0
/-! The link of law 40 (printed by gen.py). -/
namespace Py
open PySem PySem.Spec PyProof.Rows L2
def topT (i : Nat) : Stmt := PySem.Challenge.pw_elderhouse_k40_two_numbers.main.body.getD i (.Pass ⟨0, 0, 0, 0⟩)
def gfT (f : Nat) : Bool := [n_within, n_two_told, n__law_mixed, n__law_whole, n__law_number, n__law_beside, n__law_told, n__law_parted, n_law].contains f
def meT : Me := ⟨nmT, gfT, sgT⟩
def gs_within : Stmt := topT 2
def ge_within : He.DefD := ⟨("within", none), "within", "within", defArgs gs_within, defBody gs_within, defScope gs_within, [], []⟩
def gs_two_told : Stmt := topT 3
def ge_two_told : He.DefD := ⟨("two_told", none), "two_told", "two_told", defArgs gs_two_told, defBody gs_two_told, defScope gs_two_told, [], []⟩
def gs__law_mixed : Stmt := topT 5
def ge__law_mixed : He.DefD := ⟨("_law_mixed", none), "_law_mixed", "_law_mixed", defArgs gs__law_mixed, defBody gs__law_mixed, defScope gs__law_mixed, [], []⟩
def gs__law_whole : Stmt := topT 6
def ge__law_whole : He.DefD := ⟨("_law_whole", none), "_law_whole", "_law_whole", defArgs gs__law_whole, defBody gs__law_whole, defScope gs__law_whole, [], []⟩
def gs__law_number : Stmt := topT 7
def ge__law_number : He.DefD := ⟨("_law_number", none), "_law_number", "_law_number", defArgs gs__law_number, defBody gs__law_number, defScope gs__law_number, [], []⟩
def gs__law_beside : Stmt := topT 8
def ge__law_beside : He.DefD := ⟨("_law_beside", none), "_law_beside", "_law_beside", defArgs gs__law_beside, defBody gs__law_beside, defScope gs__law_beside, [], []⟩
def gs__law_told : Stmt := topT 9
def ge__law_told : He.DefD := ⟨("_law_told", none), "_law_told", "_law_told", defArgs gs__law_told, defBody gs__law_told, defScope gs__law_told, [], []⟩
def gs__law_parted : Stmt := topT 10
def ge__law_parted : He.DefD := ⟨("_law_parted", none), "_law_parted", "_law_parted", defArgs gs__law_parted, defBody gs__law_parted, defScope gs__law_parted, [], []⟩
def gs_law : Stmt := topT 11
def ge_law : He.DefD := ⟨("law", none), "law", "law", defArgs gs_law, defBody gs_law, defScope gs_law, [], []⟩
def fnT : List He.DefD := [ge_within, ge_two_told, ge__law_mixed, ge__law_whole, ge__law_number, ge__law_beside, ge__law_told, ge__law_parted, ge_law]
def mAt (f : Nat) : Str × Option Str := match (f : Nat) with
  | _ => ("", none)
def atT (f : Nat) : Str × Option Str := if gfT f = true then (nmT f, none) else mAt f
def gfl : List Nat := [n_within, n_two_told, n__law_mixed, n__law_whole, n__law_number, n__law_beside, n__law_told, n__law_parted, n_law]
def cfl : List He.Fa := [He.Fa.int (nmT n_GREATEST) 1000000000000000]
def faT : List He.Fa := bltNames.map He.Fa.free ++ (gfl.map fun f => He.Fa.glo (nmT f)) ++ cfl
abbrev moT (K : PySem.W.Frag) : Mo := ⟨meT, K, fun _ => 0, fun f => He.fAd K (atT f)⟩
theorem gm_within : mB meT true ["number"] (defScope gs_within).names b_within (defBody gs_within) = true := by decide +kernel
theorem gc_within : FnScope ["number"] ["number"] (defScope gs_within) := C8.fnScope_by (by decide +kernel)
theorem gen_within {K : PySem.W.Frag} (c : He.SaysD faT fnT K) : Ent (moT K) n_within d_within := by
  obtain ⟨fd, F⟩ := c.def_ 0 (d := ge_within) rfl
  have F' : FunD K ge_within.name ge_within.qual ge_within.params ge_within.body ge_within.scope [] (ge_within.kws K) ((moT K).fa n_within) fd := F
  exact ⟨_, _, _, _, _, _, _, _, _, fd, F', gc_within, rfl, rfl, gm_within, dfl0 (F'.bindsN (ps := ["number"]) fun _ _ _ _ _ _ us hl => match us, hl with | [_], _ => rfl) rfl⟩
theorem gm_two_told : mB meT true ["sign", "a", "b"] (defScope gs_two_told).names b_two_told (defBody gs_two_told) = true := by decide +kernel
theorem gc_two_told : FnScope ["sign", "a", "b"] ["sign", "a", "b"] (defScope gs_two_told) := C8.fnScope_by (by decide +kernel)
theorem gen_two_told {K : PySem.W.Frag} (c : He.SaysD faT fnT K) : Ent (moT K) n_two_told d_two_told := by
  obtain ⟨fd, F⟩ := c.def_ 1 (d := ge_two_told) rfl
  have F' : FunD K ge_two_told.name ge_two_told.qual ge_two_told.params ge_two_told.body ge_two_told.scope [] (ge_two_told.kws K) ((moT K).fa n_two_told) fd := F
  exact ⟨_, _, _, _, _, _, _, _, _, fd, F', gc_two_told, rfl, rfl, gm_two_told, dfl0 (F'.bindsN (ps := ["sign", "a", "b"]) fun _ _ _ _ _ _ us hl => match us, hl with | [_, _, _], _ => rfl) rfl⟩
theorem gm__law_mixed : mB meT true ["_law_cell", "_law_k"] (defScope gs__law_mixed).names b__law_mixed (defBody gs__law_mixed) = true := by decide +kernel
theorem gc__law_mixed : FnScope ["_law_cell", "_law_k"] ["_law_cell", "_law_k"] (defScope gs__law_mixed) := C8.fnScope_by (by decide +kernel)
theorem gen__law_mixed {K : PySem.W.Frag} (c : He.SaysD faT fnT K) : Ent (moT K) n__law_mixed d__law_mixed := by
  obtain ⟨fd, F⟩ := c.def_ 2 (d := ge__law_mixed) rfl
  have F' : FunD K ge__law_mixed.name ge__law_mixed.qual ge__law_mixed.params ge__law_mixed.body ge__law_mixed.scope [] (ge__law_mixed.kws K) ((moT K).fa n__law_mixed) fd := F
  exact ⟨_, _, _, _, _, _, _, _, _, fd, F', gc__law_mixed, rfl, rfl, gm__law_mixed, dfl0 (F'.bindsN (ps := ["_law_cell", "_law_k"]) fun _ _ _ _ _ _ us hl => match us, hl with | [_, _], _ => rfl) rfl⟩
theorem gm__law_whole : mB meT true ["_law_thing"] (defScope gs__law_whole).names b__law_whole (defBody gs__law_whole) = true := by decide +kernel
theorem gc__law_whole : FnScope ["_law_thing"] ["_law_thing"] (defScope gs__law_whole) := C8.fnScope_by (by decide +kernel)
theorem gen__law_whole {K : PySem.W.Frag} (c : He.SaysD faT fnT K) : Ent (moT K) n__law_whole d__law_whole := by
  obtain ⟨fd, F⟩ := c.def_ 3 (d := ge__law_whole) rfl
  have F' : FunD K ge__law_whole.name ge__law_whole.qual ge__law_whole.params ge__law_whole.body ge__law_whole.scope [] (ge__law_whole.kws K) ((moT K).fa n__law_whole) fd := F
  exact ⟨_, _, _, _, _, _, _, _, _, fd, F', gc__law_whole, rfl, rfl, gm__law_whole, dfl0 (F'.bindsN (ps := ["_law_thing"]) fun _ _ _ _ _ _ us hl => match us, hl with | [_], _ => rfl) rfl⟩
theorem gm__law_number : mB meT true ["_law_cell", "_law_more", "_law_turned"] (defScope gs__law_number).names b__law_number (defBody gs__law_number) = true := by decide +kernel
theorem gc__law_number : FnScope ["_law_cell", "_law_more", "_law_turned"] ["_law_cell"] (defScope gs__law_number) := C8.fnScope_by (by decide +kernel)
theorem gen__law_number {K : PySem.W.Frag} (c : He.SaysD faT fnT K) : Ent (moT K) n__law_number d__law_number := by
  obtain ⟨fd, F⟩ := c.def_ 4 (d := ge__law_number) rfl
  have F' : FunD K ge__law_number.name ge__law_number.qual ge__law_number.params ge__law_number.body ge__law_number.scope [] (ge__law_number.kws K) ((moT K).fa n__law_number) fd := F
  exact ⟨_, _, _, _, _, _, _, _, _, fd, F', gc__law_number, rfl, rfl, gm__law_number, dfl0 (F'.bindsN (ps := ["_law_cell"]) fun _ _ _ _ _ _ us hl => match us, hl with | [_], _ => rfl) rfl⟩
theorem gm__law_beside : mB meT true ["_law_cell", "_law_a", "_law_near"] (defScope gs__law_beside).names b__law_beside (defBody gs__law_beside) = true := by decide +kernel
theorem gc__law_beside : FnScope ["_law_cell", "_law_a", "_law_near"] ["_law_cell", "_law_a"] (defScope gs__law_beside) := C8.fnScope_by (by decide +kernel)
theorem gen__law_beside {K : PySem.W.Frag} (c : He.SaysD faT fnT K) : Ent (moT K) n__law_beside d__law_beside := by
  obtain ⟨fd, F⟩ := c.def_ 5 (d := ge__law_beside) rfl
  have F' : FunD K ge__law_beside.name ge__law_beside.qual ge__law_beside.params ge__law_beside.body ge__law_beside.scope [] (ge__law_beside.kws K) ((moT K).fa n__law_beside) fd := F
  exact ⟨_, _, _, _, _, _, _, _, _, fd, F', gc__law_beside, rfl, rfl, gm__law_beside, dfl0 (F'.bindsN (ps := ["_law_cell", "_law_a"]) fun _ _ _ _ _ _ us hl => match us, hl with | [_, _], _ => rfl) rfl⟩
theorem gm__law_told : mB meT true ["_law_number_here"] (defScope gs__law_told).names b__law_told (defBody gs__law_told) = true := by decide +kernel
theorem gc__law_told : FnScope ["_law_number_here"] ["_law_number_here"] (defScope gs__law_told) := C8.fnScope_by (by decide +kernel)
theorem gen__law_told {K : PySem.W.Frag} (c : He.SaysD faT fnT K) : Ent (moT K) n__law_told d__law_told := by
  obtain ⟨fd, F⟩ := c.def_ 6 (d := ge__law_told) rfl
  have F' : FunD K ge__law_told.name ge__law_told.qual ge__law_told.params ge__law_told.body ge__law_told.scope [] (ge__law_told.kws K) ((moT K).fa n__law_told) fd := F
  exact ⟨_, _, _, _, _, _, _, _, _, fd, F', gc__law_told, rfl, rfl, gm__law_told, dfl0 (F'.bindsN (ps := ["_law_number_here"]) fun _ _ _ _ _ _ us hl => match us, hl with | [_], _ => rfl) rfl⟩
theorem gm__law_parted : mB meT true ["_law_found", "_law_a", "_law_b"] (defScope gs__law_parted).names b__law_parted (defBody gs__law_parted) = true := by decide +kernel
theorem gc__law_parted : FnScope ["_law_found", "_law_a", "_law_b"] ["_law_found", "_law_a", "_law_b"] (defScope gs__law_parted) := C8.fnScope_by (by decide +kernel)
theorem gen__law_parted {K : PySem.W.Frag} (c : He.SaysD faT fnT K) : Ent (moT K) n__law_parted d__law_parted := by
  obtain ⟨fd, F⟩ := c.def_ 7 (d := ge__law_parted) rfl
  have F' : FunD K ge__law_parted.name ge__law_parted.qual ge__law_parted.params ge__law_parted.body ge__law_parted.scope [] (ge__law_parted.kws K) ((moT K).fa n__law_parted) fd := F
  exact ⟨_, _, _, _, _, _, _, _, _, fd, F', gc__law_parted, rfl, rfl, gm__law_parted, dfl0 (F'.bindsN (ps := ["_law_found", "_law_a", "_law_b"]) fun _ _ _ _ _ _ us hl => match us, hl with | [_, _, _], _ => rfl) rfl⟩
theorem gm_law : mB meT true ["_law_script", "_law_k", "_law_a", "_law_b", "_law_dues", "_law_sign", "_law_due", "_law_found"] (defScope gs_law).names b_law (defBody gs_law) = true := by decide +kernel
theorem gc_law : FnScope ["_law_script", "_law_k", "_law_a", "_law_b", "_law_dues", "_law_sign", "_law_due", "_law_found"] ["_law_script"] (defScope gs_law) := C8.fnScope_by (by decide +kernel)
theorem gen_law {K : PySem.W.Frag} (c : He.SaysD faT fnT K) : Ent (moT K) n_law d_law := by
  obtain ⟨fd, F⟩ := c.def_ 8 (d := ge_law) rfl
  have F' : FunD K ge_law.name ge_law.qual ge_law.params ge_law.body ge_law.scope [] (ge_law.kws K) ((moT K).fa n_law) fd := F
  exact ⟨_, _, _, _, _, _, _, _, _, fd, F', gc_law, rfl, rfl, gm_law, dfl0 (F'.bindsN (ps := ["_law_script"]) fun _ _ _ _ _ _ us hl => match us, hl with | [_], _ => rfl) rfl⟩
theorem hallT {K : PySem.W.Frag} (c : He.SaysD faT fnT K) : ∀ f d, sgT.fn f = some d → Ent (moT K) f d := fun f d h => getF_all (P := fun f d => Ent (moT K) f d) (l := fdsT) ⟨gen_within c, gen_two_told c, gen__law_mixed c, gen__law_whole c, gen__law_number c, gen__law_beside c, gen__law_told c, gen__law_parted c, gen_law c, trivial⟩ h
theorem gloT {K : PySem.W.Frag} {h : Heap} {mg : Str → Option Value} (c : He.SaysD faT fnT K) (X : K.In h) (G : h.Ns mainGlobals mg) : Glo (moT K) mg where
  free := fun x hx => He.free_ok X G (SaysD.mem c (List.mem_append_left _ (List.mem_append_left _ (List.mem_map_of_mem hx))))
  con := fun g v e => getN_all (P := ConP K mg nmT) (l := conT) ⟨con_int X G (SaysD.mem c (List.mem_append_right _ (List.mem_of_getElem? (i := 0) rfl))), trivial⟩ e
theorem fngT {K : PySem.W.Frag} {h : Heap} {mg : Str → Option Value} (c : He.SaysD faT fnT K) (X : K.In h) (G : h.Ns mainGlobals mg) : ∀ f, gfT f = true → mg (nmT f) = some (.ref (He.fAd K (atT f))) := fun f hf => by
  have e := He.glo_ok X G (SaysD.mem c (List.mem_append_left _ (List.mem_append_right _ (List.mem_map_of_mem (f := fun f => He.Fa.glo (nmT f)) (List.contains_iff_mem.mp hf)))))
  unfold atT
  rw [if_pos hf]
  exact e
abbrev R : PySem.W.OpenRow := PySem.W.OpenLaw.row PySem.Challenge.rw_elderhouse_k40_two_numbers
abbrev hk : PySem.W.Hook := He.hookD 5 faT fnT
def ob (s : PySem.W.SharedT) : He.AlD := He.obsDG 5 faT fnT (HandSHeadRun.getT s)
theorem ob_eq (s : PySem.W.SharedT) : ob s = hk.obs s.abs := He.obsDG_eq (HandSHeadRun.getT_eq s)
def tnames0 : List Str := ["GREATEST", "within", "two_told", "_law_mixed", "_law_whole", "_law_number", "_law_beside", "_law_told", "_law_parted"]
def topNames : List Str := tnames0
theorem run (w : World) : HandSHeadRun.RunEq R (PySem.W.view R.prog [11]) hk ob 100000 topNames w := by
  intro os
  kernel_rfl
theorem facts {P : Program} {w : World} {K : PySem.W.Frag} {h : Heap} {mg : Str → Option Value} {f : Addr} {k n : Nat} (X : K.In h) (G : h.Ns mainGlobals mg) (hfa : mg ("law" : Str) = some (.ref f)) (c : He.SaysD faT fnT K) :
    ∃ fd : FuncData, (∀ (s : Shared) (v : Value), BindsTo s fd ⟨[v], []⟩ [("_law_script", v)]) ∧ ∀ base : Heap, K.In base → base.Ns mainGlobals mg → FnOk P w K mg base (L2.CX P w) (k + 1) f fd ["_law_script"] (spF (moT K) (k + 1) n_law 1) := by
  obtain ⟨fd, F⟩ := c.def_ 8 (d := ge_law) rfl
  have F' : FunD K ge_law.name ge_law.qual ge_law.params ge_law.body ge_law.scope [] (ge_law.kws K) ((moT K).fa n_law) fd := F
  have e := hfa.symm.trans (fngT c X G n_law rfl)
  have e' : f = (moT K).fa n_law := by injection e with e; injection e
  subst e'
  have b := FunD.bindsA (ps := ["_law_script"]) F' fun _ _ _ _ _ _ us hl => match us, hl with | [_], _ => rfl
  exact ⟨fd, fun s v => b s [v] rfl, fun base Xb Gb => fn_one (M := moT K) (f := n_law) (d := d_law) (gloT c X G) (fngT c X G) rfl (funs_ok (gloT c X G) (fngT c X G) (hallT c) k) F' gc_law rfl rfl gm_law⟩
end Py

set_option Elab.async false
set_option linter.all false
set_option maxRecDepth 100000
set_option maxHeartbeats 4000000
/-! PyLaw: plain lemmas for readings. -/
namespace Py
open PySem
theorem strOk_lit (s : String) : PyData.strOk (Str.ofString s) = true := by
  rw [Str.ofString_eq_toList]
  unfold PyData.strOk
  rw [Array.all_eq_true']
  intro x hx
  simp only [List.mem_toArray, List.mem_map] at hx
  obtain ⟨c, _, rfl⟩ := hx
  have v : c.val.toNat < 0xd800 ∨ (0xdfff < c.val.toNat ∧ c.val.toNat < 0x110000) := c.valid
  have e : c.toNat = c.val.toNat := rfl
  refine decide_eq_true ?_
  rw [e]; omega
theorem lit_inj {a b : String} : Str.ofString a = Str.ofString b ↔ a = b := by
  constructor
  · intro e
    rw [Str.ofString_eq_toList, Str.ofString_eq_toList] at e
    injection e with e
    have e2 : a.toList.map Char.toNat = b.toList.map Char.toNat := by simpa using e
    have e3 : a.toList = b.toList := by
      have inj : ∀ (x y : List Char), x.map Char.toNat = y.map Char.toNat → x = y := by
        intro x
        induction x with
        | nil => intro y h; cases y with
          | nil => rfl
          | cons => cases h
        | cons c r ih => intro y h; cases y with
          | nil => cases h
          | cons d s =>
            simp only [List.map_cons, List.cons.injEq] at h
            have : c = d := Char.ext (UInt32.toNat_inj.mp h.1)
            rw [this, ih s h.2]
      exact inj _ _ e2
    exact String.toList_inj.mp e3
  · intro e; rw [e]
theorem lit_beq (a b : String) : (Str.ofString a == Str.ofString b) = (a == b) := by
  rw [Bool.eq_iff_iff, beq_iff_eq, beq_iff_eq]; exact lit_inj
theorem bqd {α : Type} [BEq α] [LawfulBEq α] [DecidableEq α] {a b : α} : (a == b) = decide (a = b) := by
  rw [Bool.eq_iff_iff, beq_iff_eq, decide_eq_true_iff]
mutual
def dat : PV → PyData
  | .non => .none
  | .bl b => .bool b
  | .int i => .int i
  | .str s => .str s
  | .tup xs => .tuple (dats xs)
  | .ref _ => .none
def dats : List PV → List PyData
  | [] => []
  | x :: r => dat x :: dats r
end
mutual
def flat : PV → Bool
  | .tup xs => flats xs
  | .ref _ => false
  | _ => true
def flats : List PV → Bool
  | [] => true
  | x :: r => flat x && flats r
end
mutual
theorem Dat_dat {h : PH} : ∀ x, flat x = true → Dat h (dat x) x
  | .non, _ => rfl
  | .bl b, _ => rfl
  | .int i, _ => rfl
  | .str s, _ => rfl
  | .tup xs, f => ⟨xs, rfl, Dats_dats xs f⟩
  | .ref _, f => by cases f
theorem Dats_dats {h : PH} : ∀ x, flats x = true → Dats h (dats x) x
  | [], _ => rfl
  | x :: r, f => by
    obtain ⟨a, b⟩ := Bool.and_eq_true_iff.mp (show (flat x && flats r) = true from f)
    exact ⟨x, r, rfl, Dat_dat x a, Dats_dats r b⟩
end
mutual
theorem Dat_un {h : PH} : ∀ d x, flat x = true → Dat h d x → d = dat x
  | .none, x, f, e => by cases (show x = .non from e); rfl
  | .bool b, x, f, e => by cases (show x = .bl b from e); rfl
  | .int i, x, f, e => by cases (show x = .int i from e); rfl
  | .str s, x, f, e => by cases (show x = .str s from e); rfl
  | .tuple ds, x, f, e => by
    obtain ⟨xs, rfl, e⟩ := e
    show PyData.tuple ds = .tuple (dats xs)
    rw [Dats_un ds xs f e]
  | .list ds, x, f, e => by
    obtain ⟨xs, e, _⟩ := e
    cases x with
    | ref a => cases f
    | _ => cases e
  | .dict _, x, f, e => e.elim
theorem Dats_un {h : PH} : ∀ d x, flats x = true → Dats h d x → d = dats x
  | [], x, f, e => by cases (show x = [] from e); rfl
  | d :: ds, x, f, e => by
    obtain ⟨y, ys, rfl, e1, e2⟩ := e
    obtain ⟨a, b⟩ := Bool.and_eq_true_iff.mp (show (flat y && flats ys) = true from f)
    show d :: ds = dat y :: dats ys
    rw [Dat_un d y a e1, Dats_un ds ys b e2]
end
def okV (x : PV) : Bool := flat x && SeqAt.shaped (dat x)
theorem cmp_eq {x y : PV} {h : PH} {Q : Bool → PH → Prop} (a : okV x = true) (b : okV y = true) : cmpV .eq x y h Q = Q (PyData.eqv (dat x) (dat y)) h := by
  obtain ⟨a1, a2⟩ := Bool.and_eq_true_iff.mp a
  obtain ⟨b1, b2⟩ := Bool.and_eq_true_iff.mp b
  refine propext ⟨fun ⟨d, e, p, q, _, _, r⟩ => ?_, fun r => ⟨_, _, Dat_dat x a1, Dat_dat y b1, a2, b2, r⟩⟩
  rw [← Dat_un d x a1 p, ← Dat_un e y b1 q]; exact r
theorem cmp_ne {x y : PV} {h : PH} {Q : Bool → PH → Prop} (a : okV x = true) (b : okV y = true) : cmpV .ne x y h Q = Q (!PyData.eqv (dat x) (dat y)) h := by
  obtain ⟨a1, a2⟩ := Bool.and_eq_true_iff.mp a
  obtain ⟨b1, b2⟩ := Bool.and_eq_true_iff.mp b
  refine propext ⟨fun ⟨d, e, p, q, _, _, r⟩ => ?_, fun r => ⟨_, _, Dat_dat x a1, Dat_dat y b1, a2, b2, r⟩⟩
  rw [← Dat_un d x a1 p, ← Dat_un e y b1 q]; exact r
theorem eq_int {i j : Int} {h : PH} {Q : Bool → PH → Prop} : cmpV .eq (.int i) (.int j) h Q = Q (decide (i = j)) h := by
  rw [cmp_eq rfl rfl]; show Q (i == j) h = _; rw [bqd]
theorem ne_int {i j : Int} {h : PH} {Q : Bool → PH → Prop} : cmpV .ne (.int i) (.int j) h Q = Q (decide (i ≠ j)) h := by
  rw [cmp_ne rfl rfl]; show Q (!(i == j)) h = _; rw [bqd, decide_not]
theorem okV_lit {s : String} : okV (.str (Str.ofString s)) = true := by
  show (true && (PyData.strOk (Str.ofString s) && _)) = true
  rw [strOk_lit]; rfl
theorem eq_lit {i j : String} {h : PH} {Q : Bool → PH → Prop} : cmpV .eq (.str (Str.ofString i)) (.str (Str.ofString j)) h Q = Q (decide (i = j)) h := by
  rw [cmp_eq okV_lit okV_lit]; show Q (Str.ofString i == Str.ofString j) h = _; rw [lit_beq, bqd]
theorem ne_lit {i j : String} {h : PH} {Q : Bool → PH → Prop} : cmpV .ne (.str (Str.ofString i)) (.str (Str.ofString j)) h Q = Q (decide (i ≠ j)) h := by
  rw [cmp_ne okV_lit okV_lit]; show Q (!(Str.ofString i == Str.ofString j)) h = _; rw [lit_beq, bqd, decide_not]
/-- a call, entered -/
theorem call_in {G : Sig} {k f : Nat} {d : FD} {args : List PV} {h : PH} {Q : KQ} {X : KX} (e : G.fn f = some d) (l : args.length = d.np) :
    callS G (k + 1) (.fn f) args h Q X = evB G (callS G k) d.body (startL d args) h ⟨fun _ h' => Q .non h', Q, fun _ _ => False, fun x _ h' => X x h'⟩ := by
  have e0 : fill d.dfl args d.np = args := by
    show args ++ d.dfl.drop (d.dfl.length - (d.np - args.length)) = args
    rw [l, Nat.sub_self, Nat.sub_zero, List.drop_length, List.append_nil]
  refine propext ⟨fun ⟨d', e', _, _, q⟩ => ?_, fun q => ⟨d, e, by rw [e0, l], Nat.le_of_eq l, by rw [e0]; exact q⟩⟩
  rw [e] at e'; cases e'
  rw [e0] at q; exact q
theorem ex_int {i : Int} {P : Int → Prop} : (∃ j, PV.int i = .int j ∧ P j) = P i := propext ⟨fun ⟨j, e, p⟩ => by cases e; exact p, fun p => ⟨i, rfl, p⟩⟩
theorem ex_bl {i : Bool} {P : Bool → Prop} : (∃ j, PV.bl i = .bl j ∧ P j) = P i := propext ⟨fun ⟨j, e, p⟩ => by cases e; exact p, fun p => ⟨i, rfl, p⟩⟩
theorem ex_tup {i : List PV} {P : List PV → Prop} : (∃ j, PV.tup i = .tup j ∧ P j) = P i := propext ⟨fun ⟨j, e, p⟩ => by cases e; exact p, fun p => ⟨i, rfl, p⟩⟩
theorem ex_some {α : Type} {i : α} {P : α → Prop} : (∃ j, some i = some j ∧ P j) = P i := propext ⟨fun ⟨j, e, p⟩ => by cases e; exact p, fun p => ⟨i, rfl, p⟩⟩
theorem ex_var {v : PV} {P : PV → Prop} : (∃ j, (some (some v) : Option (Option PV)) = some (some j) ∧ P j) = P v := propext ⟨fun ⟨j, e, p⟩ => by cases e; exact p, fun p => ⟨v, rfl, p⟩⟩
theorem bAdd {i j : Int} {h : PH} {Q : KQ} : binV .add (.int i) (.int j) h Q = Q (.int (i + j)) h := rfl
theorem bAddS {i j : Str} {h : PH} {Q : KQ} : binV .add (.str i) (.str j) h Q = (i.length + j.length ≤ SZ ∧ Q (.str (i ++ j)) h) := rfl
theorem bAddT {i j : List PV} {h : PH} {Q : KQ} : binV .add (.tup i) (.tup j) h Q = (i.length + j.length ≤ SZ ∧ Q (.tup (i ++ j)) h) := rfl
theorem bAddL {a b : Nat} {h : PH} {Q : KQ} : binV .add (.ref a) (.ref b) h Q = ∃ xs ys, h[a]? = some (.lst xs) ∧ h[b]? = some (.lst ys) ∧ xs.length + ys.length ≤ SZ ∧ Q (.ref h.length) (h ++ [.lst (xs ++ ys)]) := rfl
theorem bSub {i j : Int} {h : PH} {Q : KQ} : binV .sub (.int i) (.int j) h Q = Q (.int (i - j)) h := rfl
theorem bMul {i j : Int} {h : PH} {Q : KQ} : binV .mul (.int i) (.int j) h Q = (mulOk i j ∧ Q (.int (i * j)) h) := rfl
theorem bDiv {i j : Int} {h : PH} {Q : KQ} : binV .fdiv (.int i) (.int j) h Q = (j ≠ 0 ∧ j.natAbs.log2 < 9000 ∧ Q (.int (i.fdiv j)) h) := rfl
theorem bMod {i j : Int} {h : PH} {Q : KQ} : binV .mod (.int i) (.int j) h Q = (j ≠ 0 ∧ Q (.int (i.fmod j)) h) := rfl
theorem bPow {i j : Int} {h : PH} {Q : KQ} : binV .pow (.int i) (.int j) h Q = ((0 ≤ j ∧ j ≤ 1000000 ∧ i.natAbs < 2 ^ 64) ∧ Q (.int (i ^ j.toNat)) h) := rfl
/-- division by a literal -/
theorem bDivL {i j : Int} {h : PH} {Q : KQ} (p : 0 < j) (l : j < 18446744073709551616) : binV .fdiv (.int i) (.int j) h Q = Q (.int (i / j)) h := by
  rw [bDiv, Int.fdiv_eq_ediv_of_nonneg _ (by omega)]
  refine propext ⟨fun q => q.2.2, fun q => ⟨by omega, ?_, q⟩⟩
  have : j.natAbs.log2 < 64 := (Nat.log2_lt (by omega)).mpr (by omega)
  omega
theorem bModL {i j : Int} {h : PH} {Q : KQ} (p : 0 < j) : binV .mod (.int i) (.int j) h Q = Q (.int (i % j)) h := by
  rw [bMod, Int.fmod_eq_emod_of_nonneg _ (by omega)]
  exact propext ⟨fun q => q.2, fun q => ⟨by omega, q⟩⟩
theorem bMulR {i j : Int} {h : PH} {Q : KQ} (p : -18446744073709551616 < j) (l : j < 18446744073709551616) : binV .mul (.int i) (.int j) h Q = Q (.int (i * j)) h := propext ⟨fun q => q.2, fun q => ⟨.inr (by omega), q⟩⟩
theorem bMulL {i j : Int} {h : PH} {Q : KQ} (p : -18446744073709551616 < j) (l : j < 18446744073709551616) : binV .mul (.int j) (.int i) h Q = Q (.int (j * i)) h := propext ⟨fun q => q.2, fun q => ⟨.inl (by omega), q⟩⟩
theorem cLt {i j : Int} {h : PH} {Q : Bool → PH → Prop} : cmpV .lt (.int i) (.int j) h Q = Q (decide (i < j)) h := rfl
theorem cLe {i j : Int} {h : PH} {Q : Bool → PH → Prop} : cmpV .le (.int i) (.int j) h Q = Q (decide (i ≤ j)) h := rfl
theorem cGt {i j : Int} {h : PH} {Q : Bool → PH → Prop} : cmpV .gt (.int i) (.int j) h Q = Q (decide (j < i)) h := rfl
theorem cGe {i j : Int} {h : PH} {Q : Bool → PH → Prop} : cmpV .ge (.int i) (.int j) h Q = Q (decide (j ≤ i)) h := rfl
theorem cIs {x : PV} {h : PH} {Q : Bool → PH → Prop} : cmpV .isN x .non h Q = Q (isNonB x) h := rfl
theorem cNot {x : PV} {h : PH} {Q : Bool → PH → Prop} : cmpV .notN x .non h Q = Q (!isNonB x) h := rfl
theorem iTup {xs : List PV} {i : Int} {h : PH} {Q : KQ} : idxV (.tup xs) (.int i) h Q = ∃ v, atI xs i = some v ∧ Q v h := rfl
theorem iRef {a : Nat} {i : Int} {h : PH} {Q : KQ} : idxV (.ref a) (.int i) h Q = ∃ xs, lstOf h (.ref a) = some xs ∧ ∃ v, atI xs i = some v ∧ Q v h := propext ⟨fun ⟨xs, v, a, b, c⟩ => ⟨xs, a, v, b, c⟩, fun ⟨xs, a, v, b, c⟩ => ⟨xs, v, a, b, c⟩⟩
theorem iT0 {x : PV} {r : List PV} {h : PH} {Q : KQ} : idxV (.tup (x :: r)) (.int 0) h Q = Q x h := by
  rw [iTup]; refine propext ⟨fun ⟨v, e, q⟩ => ?_, fun q => ⟨x, ?_, q⟩⟩
  · have : atI (x :: r) (0 : Int) = some x := by
      unfold atI ixN; rw [if_pos (by omega), if_pos (by first | (simp; done) | (simp; omega))]; rfl
    rw [this] at e; cases e; exact q
  · unfold atI ixN; rw [if_pos (by omega), if_pos (by first | (simp; done) | (simp; omega))]; rfl
theorem iT1 {x y : PV} {r : List PV} {h : PH} {Q : KQ} : idxV (.tup (x :: y :: r)) (.int 1) h Q = Q y h := by
  have e1 : atI (x :: y :: r) (1 : Int) = some y := by
    unfold atI ixN; rw [if_pos (by omega), if_pos (by first | (simp; done) | (simp; omega))]; rfl
  rw [iTup]; refine propext ⟨fun ⟨v, e, q⟩ => ?_, fun q => ⟨y, e1, q⟩⟩
  rw [e1] at e; cases e; exact q
theorem fMin {i j : Int} {h : PH} {Q : KQ} : bfV .min2 [.int i, .int j] h Q = Q (.int (if j < i then j else i)) h := rfl
theorem fMax {i j : Int} {h : PH} {Q : KQ} : bfV .max2 [.int i, .int j] h Q = Q (.int (if j > i then j else i)) h := rfl
theorem fAbs {i : Int} {h : PH} {Q : KQ} : bfV .abs [.int i] h Q = Q (.int (if i < 0 then -i else i)) h := rfl
theorem fLenT {xs : List PV} {h : PH} {Q : KQ} : bfV .len [.tup xs] h Q = Q (.int xs.length) h := propext ⟨fun ⟨_, e, q⟩ => by cases e; exact q, fun q => ⟨xs, rfl, q⟩⟩
theorem fLenL {a : Nat} {h : PH} {Q : KQ} : bfV .len [.ref a] h Q = ∃ xs, lstOf h (.ref a) = some xs ∧ Q (.int xs.length) h := rfl
theorem sz2 {P : Prop} {n : Nat} (h : n ≤ SZ) : (n ≤ SZ ∧ P) = P := propext ⟨fun q => q.2, fun q => ⟨h, q⟩⟩
theorem tyT {xs : List PV} {h : PH} : tyN h (.tup xs) = some "tuple" := rfl
theorem tyI {i : Int} {h : PH} : tyN h (.int i) = some "int" := rfl
theorem tyB {b : Bool} {h : PH} : tyN h (.bl b) = some "bool" := rfl
theorem tyS {s : Str} {h : PH} : tyN h (.str s) = some "str" := rfl
theorem truB {b : Bool} {h : PH} : truV h (.bl b) = some b := rfl
theorem truI {b : Int} {h : PH} : truV h (.int b) = some (b != 0) := rfl
theorem bPowL {i j : Int} {h : PH} {Q : KQ} (a : 0 ≤ j) (b : j ≤ 1000000) (p : -18446744073709551616 < i) (l : i < 18446744073709551616) : binV .pow (.int i) (.int j) h Q = Q (.int (i ^ j.toNat)) h := propext ⟨fun q => q.2, fun q => ⟨⟨a, b, by omega⟩, q⟩⟩
theorem lstOf_app {h t : PH} {a : Nat} {xs : List PV} (e : lstOf h (.ref a) = some xs) : lstOf (h ++ t) (.ref a) = some xs := by
  unfold lstOf at e ⊢
  by_cases hl : a < h.length
  · simp only [List.getElem?_append_left hl]; exact e
  · simp only [List.getElem?_eq_none (Nat.le_of_not_lt hl)] at e; cases e
theorem lstOf_new {h : PH} {xs : List PV} : lstOf (h ++ [.lst xs]) (.ref h.length) = some xs := by
  unfold lstOf; simp
theorem items_ref {h : PH} {a : Nat} : itemsOf h (.ref a) = lstOf h (.ref a) := rfl
theorem items_tup {h : PH} {a : List PV} : itemsOf h (.tup a) = some a := rfl
theorem iter_inv {live : PH → Prop} {body : PV → Loc → PH → (Loc → PH → Prop) → Prop} {fin : Loc → PH → Prop} (Inv : Loc → PH → Prop) (hl : ∀ l h, Inv l h → live h) (hf : ∀ l h, Inv l h → fin l h) :
    ∀ (xs : List PV), (∀ x ∈ xs, ∀ l h K, Inv l h → (∀ l' h', Inv l' h' → K l' h') → body x l h K) → ∀ l h, Inv l h → iterL live body fin xs l h
  | [], _, l, h, i => ⟨hl l h i, hf l h i⟩
  | x :: r, hb, l, h, i => ⟨hl l h i, hb x (List.mem_cons_self ..) l h _ i fun l' h' i' => iter_inv Inv hl hf r (fun y hy => hb y (List.mem_cons_of_mem _ hy)) l' h' i'⟩
theorem mem_range {lo : Int} {n : Nat} {x : PV} (hx : x ∈ rangeL lo n) : ∃ k : Nat, k < n ∧ x = .int (lo + k) := by
  unfold rangeL at hx
  obtain ⟨k, a, b⟩ := List.mem_map.mp hx
  exact ⟨k, List.mem_range.mp a, b.symm⟩
theorem atI_nat {α : Type} {xs : List α} {k : Nat} : atI xs (k : Int) = xs[k]? := by
  unfold atI ixN
  rw [if_pos (Int.natCast_nonneg k)]
  by_cases hk : k < xs.length
  · rw [if_pos (by omega)]; rfl
  · rw [if_neg (by omega), List.getElem?_eq_none (Nat.le_of_not_lt hk)]; rfl
theorem bMulOk {i j : Int} {h : PH} {Q : KQ} (p : -18446744073709551616 < j ∧ j < 18446744073709551616) : binV .mul (.int i) (.int j) h Q = Q (.int (i * j)) h := bMulR p.1 p.2
theorem live_ref {a : Nat} {xs : List PV} {h : PH} : liveL (.ref a) xs h = (lstOf h (.ref a) = some xs) := rfl
theorem live_tup {a xs : List PV} {h : PH} : liveL (.tup a) xs h = True := rfl
theorem ex_cons {α : Type} {a : α} {b : List α} {P : α → List α → Prop} : (∃ v r, a :: b = v :: r ∧ P v r) = P a b := propext ⟨fun ⟨v, r, e, q⟩ => by cases e; exact q, fun q => ⟨a, b, rfl, q⟩⟩
end Py

set_option Elab.async false
set_option linter.all false
set_option maxRecDepth 100000
set_option maxHeartbeats 4000000
/-! Law 40, over the reading. -/
namespace Py
open PySem
def wthn (n : Int) : PV := if n < -1000000000000000 then .tup [.str "refused", .str "great"] else if 1000000000000000 < n then .tup [.str "refused", .str "great"] else .tup [.str "value", .int n]
theorem e_within {k : Nat} {n : Int} {h : PH} {Q : KQ} {X : KX} : callS sgT (k + 1) (.fn n_within) [.int n] h Q X = Q (wthn n) h := by
  rw [call_in (d := d_within) rfl rfl]
  simp only [evB, evS, evE, evEs, evO, evC, evT, evG, evGs, bAdd, bAddT, bSub, bMulL, bMulR, bDivL, bModL, cLt, cLe, cGt, cGe, cIs, cNot, iT0, iT1, fMin, fMax, fAbs, fLenT, tyT, tyI, tyB, tyS, truB, truI, ex_int, ex_bl, ex_tup, ex_some, ex_cons, eq_self, ex_var, eq_int, ne_int, eq_lit, ne_lit, startL, List.map_cons, List.map_nil, List.cons_append, List.nil_append, List.length_cons, List.length_nil, List.replicate, List.getElem?_cons_zero, List.getElem?_cons_succ, List.set_cons_zero, List.set_cons_succ, lenTs, Int.reduceToNat, Int.reducePow, Int.reduceSub, Int.reduceAdd, Int.reduceMul, Int.reduceNeg, Int.reduceLT, Int.reduceLE, Int.reduceEq, Nat.reduceLT, Nat.reduceLeDiff, Nat.reduceAdd, Nat.reduceSub, Nat.reducePow, bPowL, SZ, tyOf, evI, items_ref, items_tup, live_ref, live_tup, lstOf_new, true_and, and_true, ne_eq, not_true_eq_false, not_false_eq_true, Int.cast_ofNat_Int, decide_eq_true_eq, if_true, if_false, ite_true, ite_false, List.nil_append, isB, String.reduceBEq, String.reduceEq, decide_true, decide_false, Bool.false_eq_true, Bool.or_false, Bool.and_false, Bool.or_true, Bool.and_true, Bool.true_and, Bool.false_and, Bool.not_true, Bool.not_false, ite_true, ite_false, reduceIte, Bool.true_or, Bool.false_or, gt_iff_lt, ge_iff_le, d_within, b_within, sgT, conT, getN]
  unfold wthn
  split
  · rfl
  · split <;> rfl
theorem e_told {k : Nat} {n : Int} {h : PH} {Q : KQ} {X : KX} : callS sgT (k + 1) (.fn n__law_told) [.int n] h Q X = Q (wthn n) h := by
  rw [call_in (d := d__law_told) rfl rfl]
  simp only [evB, evS, evE, evEs, evO, evC, evT, evG, evGs, bAdd, bAddT, bSub, bMulL, bMulR, bDivL, bModL, cLt, cLe, cGt, cGe, cIs, cNot, iT0, iT1, fMin, fMax, fAbs, fLenT, tyT, tyI, tyB, tyS, truB, truI, ex_int, ex_bl, ex_tup, ex_some, ex_cons, eq_self, ex_var, eq_int, ne_int, eq_lit, ne_lit, startL, List.map_cons, List.map_nil, List.cons_append, List.nil_append, List.length_cons, List.length_nil, List.replicate, List.getElem?_cons_zero, List.getElem?_cons_succ, List.set_cons_zero, List.set_cons_succ, lenTs, Int.reduceToNat, Int.reducePow, Int.reduceSub, Int.reduceAdd, Int.reduceMul, Int.reduceNeg, Int.reduceLT, Int.reduceLE, Int.reduceEq, Nat.reduceLT, Nat.reduceLeDiff, Nat.reduceAdd, Nat.reduceSub, Nat.reducePow, bPowL, SZ, tyOf, evI, items_ref, items_tup, live_ref, live_tup, lstOf_new, true_and, and_true, ne_eq, not_true_eq_false, not_false_eq_true, Int.cast_ofNat_Int, decide_eq_true_eq, if_true, if_false, ite_true, ite_false, List.nil_append, isB, String.reduceBEq, String.reduceEq, decide_true, decide_false, Bool.false_eq_true, Bool.or_false, Bool.and_false, Bool.or_true, Bool.and_true, Bool.true_and, Bool.false_and, Bool.not_true, Bool.not_false, ite_true, ite_false, reduceIte, Bool.true_or, Bool.false_or, gt_iff_lt, ge_iff_le, d__law_told, b__law_told, sgT, conT, getN]
  unfold wthn
  split
  · rfl
  · split <;> rfl
theorem e_add {k : Nat} {a b : Int} {h : PH} {Q : KQ} {X : KX} : callS sgT (k + 2) (.fn n_two_told) [.str "+", .int a, .int b] h Q X = Q (wthn (a + b)) h := by
  rw [call_in (d := d_two_told) rfl rfl]
  simp only [evB, evS, evE, evEs, evO, evC, evT, evG, evGs, bAdd, bAddT, bSub, bMulL, bMulR, bDivL, bModL, cLt, cLe, cGt, cGe, cIs, cNot, iT0, iT1, fMin, fMax, fAbs, fLenT, tyT, tyI, tyB, tyS, truB, truI, ex_int, ex_bl, ex_tup, ex_some, ex_cons, eq_self, ex_var, eq_int, ne_int, eq_lit, ne_lit, startL, List.map_cons, List.map_nil, List.cons_append, List.nil_append, List.length_cons, List.length_nil, List.replicate, List.getElem?_cons_zero, List.getElem?_cons_succ, List.set_cons_zero, List.set_cons_succ, lenTs, Int.reduceToNat, Int.reducePow, Int.reduceSub, Int.reduceAdd, Int.reduceMul, Int.reduceNeg, Int.reduceLT, Int.reduceLE, Int.reduceEq, Nat.reduceLT, Nat.reduceLeDiff, Nat.reduceAdd, Nat.reduceSub, Nat.reducePow, bPowL, SZ, tyOf, evI, items_ref, items_tup, live_ref, live_tup, lstOf_new, true_and, and_true, ne_eq, not_true_eq_false, not_false_eq_true, Int.cast_ofNat_Int, decide_eq_true_eq, if_true, if_false, ite_true, ite_false, List.nil_append, isB, String.reduceBEq, String.reduceEq, decide_true, decide_false, Bool.false_eq_true, Bool.or_false, Bool.and_false, Bool.or_true, Bool.and_true, Bool.true_and, Bool.false_and, Bool.not_true, Bool.not_false, ite_true, ite_false, reduceIte, Bool.true_or, Bool.false_or, gt_iff_lt, ge_iff_le, d_two_told, b_two_told, e_within]
theorem e_sub {k : Nat} {a b : Int} {h : PH} {Q : KQ} {X : KX} : callS sgT (k + 2) (.fn n_two_told) [.str "-", .int a, .int b] h Q X = Q (wthn (a - b)) h := by
  rw [call_in (d := d_two_told) rfl rfl]
  simp only [evB, evS, evE, evEs, evO, evC, evT, evG, evGs, bAdd, bAddT, bSub, bMulL, bMulR, bDivL, bModL, cLt, cLe, cGt, cGe, cIs, cNot, iT0, iT1, fMin, fMax, fAbs, fLenT, tyT, tyI, tyB, tyS, truB, truI, ex_int, ex_bl, ex_tup, ex_some, ex_cons, eq_self, ex_var, eq_int, ne_int, eq_lit, ne_lit, startL, List.map_cons, List.map_nil, List.cons_append, List.nil_append, List.length_cons, List.length_nil, List.replicate, List.getElem?_cons_zero, List.getElem?_cons_succ, List.set_cons_zero, List.set_cons_succ, lenTs, Int.reduceToNat, Int.reducePow, Int.reduceSub, Int.reduceAdd, Int.reduceMul, Int.reduceNeg, Int.reduceLT, Int.reduceLE, Int.reduceEq, Nat.reduceLT, Nat.reduceLeDiff, Nat.reduceAdd, Nat.reduceSub, Nat.reducePow, bPowL, SZ, tyOf, evI, items_ref, items_tup, live_ref, live_tup, lstOf_new, true_and, and_true, ne_eq, not_true_eq_false, not_false_eq_true, Int.cast_ofNat_Int, decide_eq_true_eq, if_true, if_false, ite_true, ite_false, List.nil_append, isB, String.reduceBEq, String.reduceEq, decide_true, decide_false, Bool.false_eq_true, Bool.or_false, Bool.and_false, Bool.or_true, Bool.and_true, Bool.true_and, Bool.false_and, Bool.not_true, Bool.not_false, ite_true, ite_false, reduceIte, Bool.true_or, Bool.false_or, gt_iff_lt, ge_iff_le, d_two_told, b_two_told, e_within]
theorem e_mul {k : Nat} {a b : Int} {h : PH} {Q : KQ} {X : KX} (p : -18446744073709551616 < b ∧ b < 18446744073709551616) : callS sgT (k + 2) (.fn n_two_told) [.str "*", .int a, .int b] h Q X = Q (wthn (a * b)) h := by
  rw [call_in (d := d_two_told) rfl rfl]
  simp only [evB, evS, evE, evEs, evO, evC, evT, evG, evGs, bAdd, bAddT, bSub, bMulL, bMulR, bDivL, bModL, cLt, cLe, cGt, cGe, cIs, cNot, iT0, iT1, fMin, fMax, fAbs, fLenT, tyT, tyI, tyB, tyS, truB, truI, ex_int, ex_bl, ex_tup, ex_some, ex_cons, eq_self, ex_var, eq_int, ne_int, eq_lit, ne_lit, startL, List.map_cons, List.map_nil, List.cons_append, List.nil_append, List.length_cons, List.length_nil, List.replicate, List.getElem?_cons_zero, List.getElem?_cons_succ, List.set_cons_zero, List.set_cons_succ, lenTs, Int.reduceToNat, Int.reducePow, Int.reduceSub, Int.reduceAdd, Int.reduceMul, Int.reduceNeg, Int.reduceLT, Int.reduceLE, Int.reduceEq, Nat.reduceLT, Nat.reduceLeDiff, Nat.reduceAdd, Nat.reduceSub, Nat.reducePow, bPowL, SZ, tyOf, evI, items_ref, items_tup, live_ref, live_tup, lstOf_new, true_and, and_true, ne_eq, not_true_eq_false, not_false_eq_true, Int.cast_ofNat_Int, decide_eq_true_eq, if_true, if_false, ite_true, ite_false, List.nil_append, isB, String.reduceBEq, String.reduceEq, decide_true, decide_false, Bool.false_eq_true, Bool.or_false, Bool.and_false, Bool.or_true, Bool.and_true, Bool.true_and, Bool.false_and, Bool.not_true, Bool.not_false, ite_true, ite_false, reduceIte, Bool.true_or, Bool.false_or, gt_iff_lt, ge_iff_le, d_two_told, b_two_told, e_within, bMulOk p]
theorem e_lt {k : Nat} {a b : Int} {h : PH} {Q : KQ} {X : KX} : callS sgT (k + 2) (.fn n_two_told) [.str "<", .int a, .int b] h Q X = Q (.tup [.str "value", .bl (decide (a < b))]) h := by
  rw [call_in (d := d_two_told) rfl rfl]
  simp only [evB, evS, evE, evEs, evO, evC, evT, evG, evGs, bAdd, bAddT, bSub, bMulL, bMulR, bDivL, bModL, cLt, cLe, cGt, cGe, cIs, cNot, iT0, iT1, fMin, fMax, fAbs, fLenT, tyT, tyI, tyB, tyS, truB, truI, ex_int, ex_bl, ex_tup, ex_some, ex_cons, eq_self, ex_var, eq_int, ne_int, eq_lit, ne_lit, startL, List.map_cons, List.map_nil, List.cons_append, List.nil_append, List.length_cons, List.length_nil, List.replicate, List.getElem?_cons_zero, List.getElem?_cons_succ, List.set_cons_zero, List.set_cons_succ, lenTs, Int.reduceToNat, Int.reducePow, Int.reduceSub, Int.reduceAdd, Int.reduceMul, Int.reduceNeg, Int.reduceLT, Int.reduceLE, Int.reduceEq, Nat.reduceLT, Nat.reduceLeDiff, Nat.reduceAdd, Nat.reduceSub, Nat.reducePow, bPowL, SZ, tyOf, evI, items_ref, items_tup, live_ref, live_tup, lstOf_new, true_and, and_true, ne_eq, not_true_eq_false, not_false_eq_true, Int.cast_ofNat_Int, decide_eq_true_eq, if_true, if_false, ite_true, ite_false, List.nil_append, isB, String.reduceBEq, String.reduceEq, decide_true, decide_false, Bool.false_eq_true, Bool.or_false, Bool.and_false, Bool.or_true, Bool.and_true, Bool.true_and, Bool.false_and, Bool.not_true, Bool.not_false, ite_true, ite_false, reduceIte, Bool.true_or, Bool.false_or, gt_iff_lt, ge_iff_le, d_two_told, b_two_told, e_within]
theorem e_eq {k : Nat} {a b : Int} {h : PH} {Q : KQ} {X : KX} : callS sgT (k + 2) (.fn n_two_told) [.str "=", .int a, .int b] h Q X = Q (.tup [.str "value", .bl (decide (a = b))]) h := by
  rw [call_in (d := d_two_told) rfl rfl]
  simp only [evB, evS, evE, evEs, evO, evC, evT, evG, evGs, bAdd, bAddT, bSub, bMulL, bMulR, bDivL, bModL, cLt, cLe, cGt, cGe, cIs, cNot, iT0, iT1, fMin, fMax, fAbs, fLenT, tyT, tyI, tyB, tyS, truB, truI, ex_int, ex_bl, ex_tup, ex_some, ex_cons, eq_self, ex_var, eq_int, ne_int, eq_lit, ne_lit, startL, List.map_cons, List.map_nil, List.cons_append, List.nil_append, List.length_cons, List.length_nil, List.replicate, List.getElem?_cons_zero, List.getElem?_cons_succ, List.set_cons_zero, List.set_cons_succ, lenTs, Int.reduceToNat, Int.reducePow, Int.reduceSub, Int.reduceAdd, Int.reduceMul, Int.reduceNeg, Int.reduceLT, Int.reduceLE, Int.reduceEq, Nat.reduceLT, Nat.reduceLeDiff, Nat.reduceAdd, Nat.reduceSub, Nat.reducePow, bPowL, SZ, tyOf, evI, items_ref, items_tup, live_ref, live_tup, lstOf_new, true_and, and_true, ne_eq, not_true_eq_false, not_false_eq_true, Int.cast_ofNat_Int, decide_eq_true_eq, if_true, if_false, ite_true, ite_false, List.nil_append, isB, String.reduceBEq, String.reduceEq, decide_true, decide_false, Bool.false_eq_true, Bool.or_false, Bool.and_false, Bool.or_true, Bool.and_true, Bool.true_and, Bool.false_and, Bool.not_true, Bool.not_false, ite_true, ite_false, reduceIte, Bool.true_or, Bool.false_or, gt_iff_lt, ge_iff_le, d_two_told, b_two_told, e_within]
theorem s_div {k : Nat} {a b : Int} {h : PH} {Q : KQ} {X : KX} (p : -18446744073709551616 < b ∧ b < 18446744073709551616) (q0 : b = 0 → Q (.tup [.str "refused", .str "nought"]) h) (q1 : b ≠ 0 → Q (wthn (a.fdiv b)) h) : callS sgT (k + 2) (.fn n_two_told) [.str "/", .int a, .int b] h Q X := by
  rw [call_in (d := d_two_told) rfl rfl]
  simp only [evB, evS, evE, evEs, evO, evC, evT, evG, evGs, bAdd, bAddT, bSub, bMulL, bMulR, bDivL, bModL, cLt, cLe, cGt, cGe, cIs, cNot, iT0, iT1, fMin, fMax, fAbs, fLenT, tyT, tyI, tyB, tyS, truB, truI, ex_int, ex_bl, ex_tup, ex_some, ex_cons, eq_self, ex_var, eq_int, ne_int, eq_lit, ne_lit, startL, List.map_cons, List.map_nil, List.cons_append, List.nil_append, List.length_cons, List.length_nil, List.replicate, List.getElem?_cons_zero, List.getElem?_cons_succ, List.set_cons_zero, List.set_cons_succ, lenTs, Int.reduceToNat, Int.reducePow, Int.reduceSub, Int.reduceAdd, Int.reduceMul, Int.reduceNeg, Int.reduceLT, Int.reduceLE, Int.reduceEq, Nat.reduceLT, Nat.reduceLeDiff, Nat.reduceAdd, Nat.reduceSub, Nat.reducePow, bPowL, SZ, tyOf, evI, items_ref, items_tup, live_ref, live_tup, lstOf_new, true_and, and_true, ne_eq, not_true_eq_false, not_false_eq_true, Int.cast_ofNat_Int, decide_eq_true_eq, if_true, if_false, ite_true, ite_false, List.nil_append, isB, String.reduceBEq, String.reduceEq, decide_true, decide_false, Bool.false_eq_true, Bool.or_false, Bool.and_false, Bool.or_true, Bool.and_true, Bool.true_and, Bool.false_and, Bool.not_true, Bool.not_false, ite_true, ite_false, reduceIte, Bool.true_or, Bool.false_or, gt_iff_lt, ge_iff_le, d_two_told, b_two_told, e_within]
  split
  · rename_i e; exact q0 e
  · rename_i e
    rw [bDiv]
    have : b.natAbs.log2 < 64 := (Nat.log2_lt (by omega)).mpr (by omega)
    refine ⟨e, by omega, ?_⟩
    rw [e_within]; exact q1 e
theorem s_mixed {k : Nat} {c : Int} {j : Int} {h : PH} {Q : KQ} {X : KX} (h0 : 0 ≤ j) (h1 : j < 1000) (q : ∀ m, 0 ≤ m → m < 2147483647 → Q (.int m) h) : callS sgT (k + 1) (.fn n__law_mixed) [.int c, .int j] h Q X := by
  rw [call_in (d := d__law_mixed) rfl rfl]
  simp only [evB, evS, evE, evEs, evO, evC, evT, evG, evGs, bAdd, bAddT, bSub, bMulL, bMulR, bDivL, bModL, cLt, cLe, cGt, cGe, cIs, cNot, iT0, iT1, fMin, fMax, fAbs, fLenT, tyT, tyI, tyB, tyS, truB, truI, ex_int, ex_bl, ex_tup, ex_some, ex_cons, eq_self, ex_var, eq_int, ne_int, eq_lit, ne_lit, startL, List.map_cons, List.map_nil, List.cons_append, List.nil_append, List.length_cons, List.length_nil, List.replicate, List.getElem?_cons_zero, List.getElem?_cons_succ, List.set_cons_zero, List.set_cons_succ, lenTs, Int.reduceToNat, Int.reducePow, Int.reduceSub, Int.reduceAdd, Int.reduceMul, Int.reduceNeg, Int.reduceLT, Int.reduceLE, Int.reduceEq, Nat.reduceLT, Nat.reduceLeDiff, Nat.reduceAdd, Nat.reduceSub, Nat.reducePow, bPowL, SZ, tyOf, evI, items_ref, items_tup, live_ref, live_tup, lstOf_new, true_and, and_true, ne_eq, not_true_eq_false, not_false_eq_true, Int.cast_ofNat_Int, decide_eq_true_eq, if_true, if_false, ite_true, ite_false, List.nil_append, isB, String.reduceBEq, String.reduceEq, decide_true, decide_false, Bool.false_eq_true, Bool.or_false, Bool.and_false, Bool.or_true, Bool.and_true, Bool.true_and, Bool.false_and, Bool.not_true, Bool.not_false, ite_true, ite_false, reduceIte, Bool.true_or, Bool.false_or, gt_iff_lt, ge_iff_le, d__law_mixed, b__law_mixed]
  rw [bMulOk (by omega)]
  simp only [evB, evS, evE, evEs, evO, evC, evT, evG, evGs, bAdd, bAddT, bSub, bMulL, bMulR, bDivL, bModL, cLt, cLe, cGt, cGe, cIs, cNot, iT0, iT1, fMin, fMax, fAbs, fLenT, tyT, tyI, tyB, tyS, truB, truI, ex_int, ex_bl, ex_tup, ex_some, ex_cons, eq_self, ex_var, eq_int, ne_int, eq_lit, ne_lit, startL, List.map_cons, List.map_nil, List.cons_append, List.nil_append, List.length_cons, List.length_nil, List.replicate, List.getElem?_cons_zero, List.getElem?_cons_succ, List.set_cons_zero, List.set_cons_succ, lenTs, Int.reduceToNat, Int.reducePow, Int.reduceSub, Int.reduceAdd, Int.reduceMul, Int.reduceNeg, Int.reduceLT, Int.reduceLE, Int.reduceEq, Nat.reduceLT, Nat.reduceLeDiff, Nat.reduceAdd, Nat.reduceSub, Nat.reducePow, bPowL, SZ, tyOf, evI, items_ref, items_tup, live_ref, live_tup, lstOf_new, true_and, and_true, ne_eq, not_true_eq_false, not_false_eq_true, Int.cast_ofNat_Int, decide_eq_true_eq, if_true, if_false, ite_true, ite_false, List.nil_append, isB, String.reduceBEq, String.reduceEq, decide_true, decide_false, Bool.false_eq_true, Bool.or_false, Bool.and_false, Bool.or_true, Bool.and_true, Bool.true_and, Bool.false_and, Bool.not_true, Bool.not_false, ite_true, ite_false, reduceIte, Bool.true_or, Bool.false_or, gt_iff_lt, ge_iff_le]
  exact q _ (by omega) (by omega)
theorem e_whole_int {k : Nat} {n : Int} {h : PH} {Q : KQ} {X : KX} : callS sgT (k + 1) (.fn n__law_whole) [.int n] h Q X = Q (.bl true) h := by
  rw [call_in (d := d__law_whole) rfl rfl]
  simp only [evB, evS, evE, evEs, evO, evC, evT, evG, evGs, bAdd, bAddT, bSub, bMulL, bMulR, bDivL, bModL, cLt, cLe, cGt, cGe, cIs, cNot, iT0, iT1, fMin, fMax, fAbs, fLenT, tyT, tyI, tyB, tyS, truB, truI, ex_int, ex_bl, ex_tup, ex_some, ex_cons, eq_self, ex_var, eq_int, ne_int, eq_lit, ne_lit, startL, List.map_cons, List.map_nil, List.cons_append, List.nil_append, List.length_cons, List.length_nil, List.replicate, List.getElem?_cons_zero, List.getElem?_cons_succ, List.set_cons_zero, List.set_cons_succ, lenTs, Int.reduceToNat, Int.reducePow, Int.reduceSub, Int.reduceAdd, Int.reduceMul, Int.reduceNeg, Int.reduceLT, Int.reduceLE, Int.reduceEq, Nat.reduceLT, Nat.reduceLeDiff, Nat.reduceAdd, Nat.reduceSub, Nat.reducePow, bPowL, SZ, tyOf, evI, items_ref, items_tup, live_ref, live_tup, lstOf_new, true_and, and_true, ne_eq, not_true_eq_false, not_false_eq_true, Int.cast_ofNat_Int, decide_eq_true_eq, if_true, if_false, ite_true, ite_false, List.nil_append, isB, String.reduceBEq, String.reduceEq, decide_true, decide_false, Bool.false_eq_true, Bool.or_false, Bool.and_false, Bool.or_true, Bool.and_true, Bool.true_and, Bool.false_and, Bool.not_true, Bool.not_false, ite_true, ite_false, reduceIte, Bool.true_or, Bool.false_or, gt_iff_lt, ge_iff_le, d__law_whole, b__law_whole]
theorem s_number {k : Nat} {c : Int} {h : PH} {Q : KQ} {X : KX} (h0 : 0 ≤ c) (h1 : c < 2147483647) (q : ∀ n t, -1000000000000000 ≤ n → n ≤ 1000000000000000 → Q (.int n) (h ++ t)) : callS sgT (k + 1) (.fn n__law_number) [.int c] h Q X := by
  rw [call_in (d := d__law_number) rfl rfl]
  have q' : ∀ n, -1000000000000000 ≤ n → n ≤ 1000000000000000 → Q (.int n) h := fun n a b => by
    have := q n [] a b
    rwa [List.append_nil] at this
  simp only [evB, evS, evE, evEs, evO, evC, evT, evG, evGs, bAdd, bAddT, bSub, bMulL, bMulR, bDivL, bModL, cLt, cLe, cGt, cGe, cIs, cNot, iT0, iT1, fMin, fMax, fAbs, fLenT, tyT, tyI, tyB, tyS, truB, truI, ex_int, ex_bl, ex_tup, ex_some, ex_cons, eq_self, ex_var, eq_int, ne_int, eq_lit, ne_lit, startL, List.map_cons, List.map_nil, List.cons_append, List.nil_append, List.length_cons, List.length_nil, List.replicate, List.getElem?_cons_zero, List.getElem?_cons_succ, List.set_cons_zero, List.set_cons_succ, lenTs, Int.reduceToNat, Int.reducePow, Int.reduceSub, Int.reduceAdd, Int.reduceMul, Int.reduceNeg, Int.reduceLT, Int.reduceLE, Int.reduceEq, Nat.reduceLT, Nat.reduceLeDiff, Nat.reduceAdd, Nat.reduceSub, Nat.reducePow, bPowL, SZ, tyOf, evI, items_ref, items_tup, live_ref, live_tup, lstOf_new, true_and, and_true, ne_eq, not_true_eq_false, not_false_eq_true, Int.cast_ofNat_Int, decide_eq_true_eq, if_true, if_false, ite_true, ite_false, List.nil_append, isB, String.reduceBEq, String.reduceEq, decide_true, decide_false, Bool.false_eq_true, Bool.or_false, Bool.and_false, Bool.or_true, Bool.and_true, Bool.true_and, Bool.false_and, Bool.not_true, Bool.not_false, ite_true, ite_false, reduceIte, Bool.true_or, Bool.false_or, gt_iff_lt, ge_iff_le, d__law_number, b__law_number]
  have ht : 1 - 2 * (c / 8 / 7 % 2) = 1 ∨ 1 - 2 * (c / 8 / 7 % 2) = -1 := by omega
  have hm : ∀ (x : Int) (h' : PH), -1000000000000000 ≤ x → x ≤ 1000000000000000 → (∀ n, -1000000000000000 ≤ n → n ≤ 1000000000000000 → Q (.int n) h') → binV BO.mul (PV.int (1 - 2 * (c / 8 / 7 % 2))) (PV.int x) h' Q := fun x h' a b q => by
    rw [bMulOk (by omega)]
    rcases ht with e | e <;> rw [e]
    · exact q _ (by omega) (by omega)
    · exact q _ (by omega) (by omega)
  split
  · exact q' _ (by omega) (by omega)
  split
  · exact hm _ _ (by omega) (by omega) q'
  split
  · exact hm _ _ (by omega) (by omega) q'
  split
  · exact hm _ _ (by omega) (by omega) q'
  split
  · rw [bMulOk (by omega)]
    simp only [evB, evS, evE, evEs, evO, evC, evT, evG, evGs, bAdd, bAddT, bSub, bMulL, bMulR, bDivL, bModL, cLt, cLe, cGt, cGe, cIs, cNot, iT0, iT1, fMin, fMax, fAbs, fLenT, tyT, tyI, tyB, tyS, truB, truI, ex_int, ex_bl, ex_tup, ex_some, ex_cons, eq_self, ex_var, eq_int, ne_int, eq_lit, ne_lit, startL, List.map_cons, List.map_nil, List.cons_append, List.nil_append, List.length_cons, List.length_nil, List.replicate, List.getElem?_cons_zero, List.getElem?_cons_succ, List.set_cons_zero, List.set_cons_succ, lenTs, Int.reduceToNat, Int.reducePow, Int.reduceSub, Int.reduceAdd, Int.reduceMul, Int.reduceNeg, Int.reduceLT, Int.reduceLE, Int.reduceEq, Nat.reduceLT, Nat.reduceLeDiff, Nat.reduceAdd, Nat.reduceSub, Nat.reducePow, bPowL, SZ, tyOf, evI, items_ref, items_tup, live_ref, live_tup, lstOf_new, true_and, and_true, ne_eq, not_true_eq_false, not_false_eq_true, Int.cast_ofNat_Int, decide_eq_true_eq, if_true, if_false, ite_true, ite_false, List.nil_append, isB, String.reduceBEq, String.reduceEq, decide_true, decide_false, Bool.false_eq_true, Bool.or_false, Bool.and_false, Bool.or_true, Bool.and_true, Bool.true_and, Bool.false_and, Bool.not_true, Bool.not_false, ite_true, ite_false, reduceIte, Bool.true_or, Bool.false_or, gt_iff_lt, ge_iff_le]
    exact q' _ (by omega) (by omega)
  split
  · exact q' _ (by omega) (by omega)
  split
  · have hi : 0 ≤ c / 8 / 14 % 8 ∧ c / 8 / 14 % 8 < 8 := by omega
    generalize c / 8 / 14 % 8 = i at hi
    rw [iRef]
    have hi' : i = 0 ∨ i = 1 ∨ i = 2 ∨ i = 3 ∨ i = 4 ∨ i = 5 ∨ i = 6 ∨ i = 7 := by omega
    rcases hi' with rfl | rfl | rfl | rfl | rfl | rfl | rfl | rfl <;> refine ⟨_, lstOf_new, _, rfl, hm _ _ (by omega) (by omega) fun n a b => q n _ a b⟩
  · exact q' _ (by omega) (by omega)
theorem s_beside {k : Nat} {c a : Int} {h : PH} {Q : KQ} {X : KX} (h0 : 0 ≤ c) (h1 : c < 2147483647) (a0 : -1000000000000000 ≤ a) (a1 : a ≤ 1000000000000000) (q : ∀ n t, -1000000000000000 ≤ n → n ≤ 1000000000000000 → Q (.int n) (h ++ t)) : callS sgT (k + 2) (.fn n__law_beside) [.int c, .int a] h Q X := by
  rw [call_in (d := d__law_beside) rfl rfl]
  have fin : ∀ (n : Int) (t : PH), Q (.int (if (if n < 1000000000000000 then n else 1000000000000000) > -1000000000000000 then (if n < 1000000000000000 then n else 1000000000000000) else -1000000000000000)) (h ++ t) := fun n t => by
    refine q _ _ ?_ ?_ <;> (repeat' split) <;> omega
  have fin0 : ∀ (n : Int), Q (.int (if (if n < 1000000000000000 then n else 1000000000000000) > -1000000000000000 then (if n < 1000000000000000 then n else 1000000000000000) else -1000000000000000)) h := fun n => by
    have := fin n []
    rwa [List.append_nil] at this
  simp only [evB, evS, evE, evEs, evO, evC, evT, evG, evGs, bAdd, bAddT, bSub, bMulL, bMulR, bDivL, bModL, cLt, cLe, cGt, cGe, cIs, cNot, iT0, iT1, fMin, fMax, fAbs, fLenT, tyT, tyI, tyB, tyS, truB, truI, ex_int, ex_bl, ex_tup, ex_some, ex_cons, eq_self, ex_var, eq_int, ne_int, eq_lit, ne_lit, startL, List.map_cons, List.map_nil, List.cons_append, List.nil_append, List.length_cons, List.length_nil, List.replicate, List.getElem?_cons_zero, List.getElem?_cons_succ, List.set_cons_zero, List.set_cons_succ, lenTs, Int.reduceToNat, Int.reducePow, Int.reduceSub, Int.reduceAdd, Int.reduceMul, Int.reduceNeg, Int.reduceLT, Int.reduceLE, Int.reduceEq, Nat.reduceLT, Nat.reduceLeDiff, Nat.reduceAdd, Nat.reduceSub, Nat.reducePow, bPowL, SZ, tyOf, evI, items_ref, items_tup, live_ref, live_tup, lstOf_new, true_and, and_true, ne_eq, not_true_eq_false, not_false_eq_true, Int.cast_ofNat_Int, decide_eq_true_eq, if_true, if_false, ite_true, ite_false, List.nil_append, isB, String.reduceBEq, String.reduceEq, decide_true, decide_false, Bool.false_eq_true, Bool.or_false, Bool.and_false, Bool.or_true, Bool.and_true, Bool.true_and, Bool.false_and, Bool.not_true, Bool.not_false, ite_true, ite_false, reduceIte, Bool.true_or, Bool.false_or, gt_iff_lt, ge_iff_le, d__law_beside, b__law_beside]
  split
  · exact fin0 _
  split
  · exact fin0 _
  split
  · split
    · rename_i e
      rw [bDiv]
      have : a.natAbs.log2 < 64 := (Nat.log2_lt (by simpa using e)).mpr (by omega)
      refine ⟨by simpa using e, by omega, ?_⟩
      simp only [evB, evS, evE, evEs, evO, evC, evT, evG, evGs, bAdd, bAddT, bSub, bMulL, bMulR, bDivL, bModL, cLt, cLe, cGt, cGe, cIs, cNot, iT0, iT1, fMin, fMax, fAbs, fLenT, tyT, tyI, tyB, tyS, truB, truI, ex_int, ex_bl, ex_tup, ex_some, ex_cons, eq_self, ex_var, eq_int, ne_int, eq_lit, ne_lit, startL, List.map_cons, List.map_nil, List.cons_append, List.nil_append, List.length_cons, List.length_nil, List.replicate, List.getElem?_cons_zero, List.getElem?_cons_succ, List.set_cons_zero, List.set_cons_succ, lenTs, Int.reduceToNat, Int.reducePow, Int.reduceSub, Int.reduceAdd, Int.reduceMul, Int.reduceNeg, Int.reduceLT, Int.reduceLE, Int.reduceEq, Nat.reduceLT, Nat.reduceLeDiff, Nat.reduceAdd, Nat.reduceSub, Nat.reducePow, bPowL, SZ, tyOf, evI, items_ref, items_tup, live_ref, live_tup, lstOf_new, true_and, and_true, ne_eq, not_true_eq_false, not_false_eq_true, Int.cast_ofNat_Int, decide_eq_true_eq, if_true, if_false, ite_true, ite_false, List.nil_append, isB, String.reduceBEq, String.reduceEq, decide_true, decide_false, Bool.false_eq_true, Bool.or_false, Bool.and_false, Bool.or_true, Bool.and_true, Bool.true_and, Bool.false_and, Bool.not_true, Bool.not_false, ite_true, ite_false, reduceIte, Bool.true_or, Bool.false_or, gt_iff_lt, ge_iff_le]
      exact fin0 _
    · split
      · refine s_number (by omega) (by omega) fun n t _ _ => ?_
        exact fin n t
      · exact fin0 _
  · split
    · refine s_number (by omega) (by omega) fun n t _ _ => ?_
      exact fin n t
    · exact fin0 _
theorem fdiv_pos {a b : Int} (a0 : -1000000000000000 ≤ a) (a1 : a ≤ 1000000000000000) (h : 0 < b) : a.fdiv b * b ≤ a ∧ a < (a.fdiv b + 1) * b ∧ -1000000000000000 ≤ a.fdiv b ∧ a.fdiv b ≤ 1000000000000000 := by
  rw [Int.fdiv_eq_ediv_of_nonneg _ (by omega)]
  refine ⟨Int.ediv_mul_le a (by omega), Int.lt_ediv_add_one_mul_self a h, Int.le_ediv_of_mul_le h (by omega), ?_⟩
  have : a / b < 1000000000000001 := Int.ediv_lt_of_lt_mul h (by omega)
  omega
theorem fdiv_neg' {a b : Int} (a0 : -1000000000000000 ≤ a) (a1 : a ≤ 1000000000000000) (h : b < 0) : a ≤ a.fdiv b * b ∧ (a.fdiv b + 1) * b < a ∧ -1000000000000000 ≤ a.fdiv b ∧ a.fdiv b ≤ 1000000000000000 := by
  have e : a.fdiv b = (-a).fdiv (-b) := (Int.neg_fdiv_neg a b).symm
  obtain ⟨h1, h2, h3, h4⟩ := fdiv_pos (a := -a) (b := -b) (by omega) (by omega) (by omega)
  rw [← e] at h1 h2 h3 h4
  rw [Int.mul_neg] at h1 h2
  exact ⟨by omega, by omega, h3, h4⟩
theorem wthn_in {n : Int} (a0 : -1000000000000000 ≤ n) (a1 : n ≤ 1000000000000000) : wthn n = .tup [.str "value", .int n] := by
  unfold wthn
  rw [if_neg (by omega), if_neg (by omega)]
theorem s_parted {k : Nat} {f : PV} {a b : Int} {h : PH} {Q : KQ} {X : KX} (a0 : -1000000000000000 ≤ a) (a1 : a ≤ 1000000000000000) (b0 : -1000000000000000 ≤ b) (b1 : b ≤ 1000000000000000)
    (f0 : b = 0 → f = .tup [.str "refused", .str "nought"]) (f1 : b ≠ 0 → f = wthn (a.fdiv b)) (q : Q (.bl true) h) : callS sgT (k + 2) (.fn n__law_parted) [f, .int a, .int b] h Q X := by
  rw [call_in (d := d__law_parted) rfl rfl]
  by_cases hb : b = 0
  · rw [f0 hb]
    simp only [evB, evS, evE, evEs, evO, evC, evT, evG, evGs, bAdd, bAddT, bSub, bMulL, bMulR, bDivL, bModL, cLt, cLe, cGt, cGe, cIs, cNot, iT0, iT1, fMin, fMax, fAbs, fLenT, tyT, tyI, tyB, tyS, truB, truI, ex_int, ex_bl, ex_tup, ex_some, ex_cons, eq_self, ex_var, eq_int, ne_int, eq_lit, ne_lit, startL, List.map_cons, List.map_nil, List.cons_append, List.nil_append, List.length_cons, List.length_nil, List.replicate, List.getElem?_cons_zero, List.getElem?_cons_succ, List.set_cons_zero, List.set_cons_succ, lenTs, Int.reduceToNat, Int.reducePow, Int.reduceSub, Int.reduceAdd, Int.reduceMul, Int.reduceNeg, Int.reduceLT, Int.reduceLE, Int.reduceEq, Nat.reduceLT, Nat.reduceLeDiff, Nat.reduceAdd, Nat.reduceSub, Nat.reducePow, bPowL, SZ, tyOf, evI, items_ref, items_tup, live_ref, live_tup, lstOf_new, true_and, and_true, ne_eq, not_true_eq_false, not_false_eq_true, Int.cast_ofNat_Int, decide_eq_true_eq, if_true, if_false, ite_true, ite_false, List.nil_append, isB, String.reduceBEq, String.reduceEq, decide_true, decide_false, Bool.false_eq_true, Bool.or_false, Bool.and_false, Bool.or_true, Bool.and_true, Bool.true_and, Bool.false_and, Bool.not_true, Bool.not_false, ite_true, ite_false, reduceIte, Bool.true_or, Bool.false_or, gt_iff_lt, ge_iff_le, d__law_parted, b__law_parted]
    rw [if_pos hb, cmp_eq (by simp only [lit_inj, okV, flat, flats, dat, dats, SeqAt.shaped, PyData.canLay0, PyData.canLayAll0, PyData.depth, PyData.depthAll, strOk_lit, PyData.eqv, PyData.eqvAll, lit_beq, bqd, String.reduceEq, String.reduceBEq, decide_true, decide_false, Bool.and_true, Bool.true_and, Bool.and_self, Bool.and_false, Bool.false_and, Nat.max_self, Nat.reduceAdd, Nat.reduceLeDiff, Nat.zero_le, Bool.not_true, Bool.not_false, Nat.zero_max, Nat.max_zero, beq_self_eq_true]) (by simp only [lit_inj, okV, flat, flats, dat, dats, SeqAt.shaped, PyData.canLay0, PyData.canLayAll0, PyData.depth, PyData.depthAll, strOk_lit, PyData.eqv, PyData.eqvAll, lit_beq, bqd, String.reduceEq, String.reduceBEq, decide_true, decide_false, Bool.and_true, Bool.true_and, Bool.and_self, Bool.and_false, Bool.false_and, Nat.max_self, Nat.reduceAdd, Nat.reduceLeDiff, Nat.zero_le, Bool.not_true, Bool.not_false, Nat.zero_max, Nat.max_zero, beq_self_eq_true])]
    simpa only [lit_inj, okV, flat, flats, dat, dats, SeqAt.shaped, PyData.canLay0, PyData.canLayAll0, PyData.depth, PyData.depthAll, strOk_lit, PyData.eqv, PyData.eqvAll, lit_beq, bqd, String.reduceEq, String.reduceBEq, decide_true, decide_false, Bool.and_true, Bool.true_and, Bool.and_self, Bool.and_false, Bool.false_and, Nat.max_self, Nat.reduceAdd, Nat.reduceLeDiff, Nat.zero_le, Bool.not_true, Bool.not_false, Nat.zero_max, Nat.max_zero, beq_self_eq_true] using q
  · rw [f1 hb]
    simp only [evB, evS, evE, evEs, evO, evC, evT, evG, evGs, bAdd, bAddT, bSub, bMulL, bMulR, bDivL, bModL, cLt, cLe, cGt, cGe, cIs, cNot, iT0, iT1, fMin, fMax, fAbs, fLenT, tyT, tyI, tyB, tyS, truB, truI, ex_int, ex_bl, ex_tup, ex_some, ex_cons, eq_self, ex_var, eq_int, ne_int, eq_lit, ne_lit, startL, List.map_cons, List.map_nil, List.cons_append, List.nil_append, List.length_cons, List.length_nil, List.replicate, List.getElem?_cons_zero, List.getElem?_cons_succ, List.set_cons_zero, List.set_cons_succ, lenTs, Int.reduceToNat, Int.reducePow, Int.reduceSub, Int.reduceAdd, Int.reduceMul, Int.reduceNeg, Int.reduceLT, Int.reduceLE, Int.reduceEq, Nat.reduceLT, Nat.reduceLeDiff, Nat.reduceAdd, Nat.reduceSub, Nat.reducePow, bPowL, SZ, tyOf, evI, items_ref, items_tup, live_ref, live_tup, lstOf_new, true_and, and_true, ne_eq, not_true_eq_false, not_false_eq_true, Int.cast_ofNat_Int, decide_eq_true_eq, if_true, if_false, ite_true, ite_false, List.nil_append, isB, String.reduceBEq, String.reduceEq, decide_true, decide_false, Bool.false_eq_true, Bool.or_false, Bool.and_false, Bool.or_true, Bool.and_true, Bool.true_and, Bool.false_and, Bool.not_true, Bool.not_false, ite_true, ite_false, reduceIte, Bool.true_or, Bool.false_or, gt_iff_lt, ge_iff_le, d__law_parted, b__law_parted]
    rw [if_neg hb]
    rcases Int.lt_or_gt_of_ne hb with h' | h'
    · obtain ⟨h1, h2, h3, h4⟩ := fdiv_neg' a0 a1 h'
      rw [wthn_in h3 h4]
      simp only [evB, evS, evE, evEs, evO, evC, evT, evG, evGs, bAdd, bAddT, bSub, bMulL, bMulR, bDivL, bModL, cLt, cLe, cGt, cGe, cIs, cNot, iT0, iT1, fMin, fMax, fAbs, fLenT, tyT, tyI, tyB, tyS, truB, truI, ex_int, ex_bl, ex_tup, ex_some, ex_cons, eq_self, ex_var, eq_int, ne_int, eq_lit, ne_lit, startL, List.map_cons, List.map_nil, List.cons_append, List.nil_append, List.length_cons, List.length_nil, List.replicate, List.getElem?_cons_zero, List.getElem?_cons_succ, List.set_cons_zero, List.set_cons_succ, lenTs, Int.reduceToNat, Int.reducePow, Int.reduceSub, Int.reduceAdd, Int.reduceMul, Int.reduceNeg, Int.reduceLT, Int.reduceLE, Int.reduceEq, Nat.reduceLT, Nat.reduceLeDiff, Nat.reduceAdd, Nat.reduceSub, Nat.reducePow, bPowL, SZ, tyOf, evI, items_ref, items_tup, live_ref, live_tup, lstOf_new, true_and, and_true, ne_eq, not_true_eq_false, not_false_eq_true, Int.cast_ofNat_Int, decide_eq_true_eq, if_true, if_false, ite_true, ite_false, List.nil_append, isB, String.reduceBEq, String.reduceEq, decide_true, decide_false, Bool.false_eq_true, Bool.or_false, Bool.and_false, Bool.or_true, Bool.and_true, Bool.true_and, Bool.false_and, Bool.not_true, Bool.not_false, ite_true, ite_false, reduceIte, Bool.true_or, Bool.false_or, gt_iff_lt, ge_iff_le, e_whole_int]
      rw [if_neg (by omega), bMulOk (by omega)]
      simp only [evB, evS, evE, evEs, evO, evC, evT, evG, evGs, bAdd, bAddT, bSub, bMulL, bMulR, bDivL, bModL, cLt, cLe, cGt, cGe, cIs, cNot, iT0, iT1, fMin, fMax, fAbs, fLenT, tyT, tyI, tyB, tyS, truB, truI, ex_int, ex_bl, ex_tup, ex_some, ex_cons, eq_self, ex_var, eq_int, ne_int, eq_lit, ne_lit, startL, List.map_cons, List.map_nil, List.cons_append, List.nil_append, List.length_cons, List.length_nil, List.replicate, List.getElem?_cons_zero, List.getElem?_cons_succ, List.set_cons_zero, List.set_cons_succ, lenTs, Int.reduceToNat, Int.reducePow, Int.reduceSub, Int.reduceAdd, Int.reduceMul, Int.reduceNeg, Int.reduceLT, Int.reduceLE, Int.reduceEq, Nat.reduceLT, Nat.reduceLeDiff, Nat.reduceAdd, Nat.reduceSub, Nat.reducePow, bPowL, SZ, tyOf, evI, items_ref, items_tup, live_ref, live_tup, lstOf_new, true_and, and_true, ne_eq, not_true_eq_false, not_false_eq_true, Int.cast_ofNat_Int, decide_eq_true_eq, if_true, if_false, ite_true, ite_false, List.nil_append, isB, String.reduceBEq, String.reduceEq, decide_true, decide_false, Bool.false_eq_true, Bool.or_false, Bool.and_false, Bool.or_true, Bool.and_true, Bool.true_and, Bool.false_and, Bool.not_true, Bool.not_false, ite_true, ite_false, reduceIte, Bool.true_or, Bool.false_or, gt_iff_lt, ge_iff_le]
      rw [if_pos h1, bMulOk (by omega)]
      simp only [evB, evS, evE, evEs, evO, evC, evT, evG, evGs, bAdd, bAddT, bSub, bMulL, bMulR, bDivL, bModL, cLt, cLe, cGt, cGe, cIs, cNot, iT0, iT1, fMin, fMax, fAbs, fLenT, tyT, tyI, tyB, tyS, truB, truI, ex_int, ex_bl, ex_tup, ex_some, ex_cons, eq_self, ex_var, eq_int, ne_int, eq_lit, ne_lit, startL, List.map_cons, List.map_nil, List.cons_append, List.nil_append, List.length_cons, List.length_nil, List.replicate, List.getElem?_cons_zero, List.getElem?_cons_succ, List.set_cons_zero, List.set_cons_succ, lenTs, Int.reduceToNat, Int.reducePow, Int.reduceSub, Int.reduceAdd, Int.reduceMul, Int.reduceNeg, Int.reduceLT, Int.reduceLE, Int.reduceEq, Nat.reduceLT, Nat.reduceLeDiff, Nat.reduceAdd, Nat.reduceSub, Nat.reducePow, bPowL, SZ, tyOf, evI, items_ref, items_tup, live_ref, live_tup, lstOf_new, true_and, and_true, ne_eq, not_true_eq_false, not_false_eq_true, Int.cast_ofNat_Int, decide_eq_true_eq, if_true, if_false, ite_true, ite_false, List.nil_append, isB, String.reduceBEq, String.reduceEq, decide_true, decide_false, Bool.false_eq_true, Bool.or_false, Bool.and_false, Bool.or_true, Bool.and_true, Bool.true_and, Bool.false_and, Bool.not_true, Bool.not_false, ite_true, ite_false, reduceIte, Bool.true_or, Bool.false_or, gt_iff_lt, ge_iff_le]
      rw [decide_eq_true h2]
      exact q
    · obtain ⟨h1, h2, h3, h4⟩ := fdiv_pos a0 a1 h'
      rw [wthn_in h3 h4]
      simp only [evB, evS, evE, evEs, evO, evC, evT, evG, evGs, bAdd, bAddT, bSub, bMulL, bMulR, bDivL, bModL, cLt, cLe, cGt, cGe, cIs, cNot, iT0, iT1, fMin, fMax, fAbs, fLenT, tyT, tyI, tyB, tyS, truB, truI, ex_int, ex_bl, ex_tup, ex_some, ex_cons, eq_self, ex_var, eq_int, ne_int, eq_lit, ne_lit, startL, List.map_cons, List.map_nil, List.cons_append, List.nil_append, List.length_cons, List.length_nil, List.replicate, List.getElem?_cons_zero, List.getElem?_cons_succ, List.set_cons_zero, List.set_cons_succ, lenTs, Int.reduceToNat, Int.reducePow, Int.reduceSub, Int.reduceAdd, Int.reduceMul, Int.reduceNeg, Int.reduceLT, Int.reduceLE, Int.reduceEq, Nat.reduceLT, Nat.reduceLeDiff, Nat.reduceAdd, Nat.reduceSub, Nat.reducePow, bPowL, SZ, tyOf, evI, items_ref, items_tup, live_ref, live_tup, lstOf_new, true_and, and_true, ne_eq, not_true_eq_false, not_false_eq_true, Int.cast_ofNat_Int, decide_eq_true_eq, if_true, if_false, ite_true, ite_false, List.nil_append, isB, String.reduceBEq, String.reduceEq, decide_true, decide_false, Bool.false_eq_true, Bool.or_false, Bool.and_false, Bool.or_true, Bool.and_true, Bool.true_and, Bool.false_and, Bool.not_true, Bool.not_false, ite_true, ite_false, reduceIte, Bool.true_or, Bool.false_or, gt_iff_lt, ge_iff_le, e_whole_int]
      rw [if_pos (by omega), bMulOk (by omega)]
      simp only [evB, evS, evE, evEs, evO, evC, evT, evG, evGs, bAdd, bAddT, bSub, bMulL, bMulR, bDivL, bModL, cLt, cLe, cGt, cGe, cIs, cNot, iT0, iT1, fMin, fMax, fAbs, fLenT, tyT, tyI, tyB, tyS, truB, truI, ex_int, ex_bl, ex_tup, ex_some, ex_cons, eq_self, ex_var, eq_int, ne_int, eq_lit, ne_lit, startL, List.map_cons, List.map_nil, List.cons_append, List.nil_append, List.length_cons, List.length_nil, List.replicate, List.getElem?_cons_zero, List.getElem?_cons_succ, List.set_cons_zero, List.set_cons_succ, lenTs, Int.reduceToNat, Int.reducePow, Int.reduceSub, Int.reduceAdd, Int.reduceMul, Int.reduceNeg, Int.reduceLT, Int.reduceLE, Int.reduceEq, Nat.reduceLT, Nat.reduceLeDiff, Nat.reduceAdd, Nat.reduceSub, Nat.reducePow, bPowL, SZ, tyOf, evI, items_ref, items_tup, live_ref, live_tup, lstOf_new, true_and, and_true, ne_eq, not_true_eq_false, not_false_eq_true, Int.cast_ofNat_Int, decide_eq_true_eq, if_true, if_false, ite_true, ite_false, List.nil_append, isB, String.reduceBEq, String.reduceEq, decide_true, decide_false, Bool.false_eq_true, Bool.or_false, Bool.and_false, Bool.or_true, Bool.and_true, Bool.true_and, Bool.false_and, Bool.not_true, Bool.not_false, ite_true, ite_false, reduceIte, Bool.true_or, Bool.false_or, gt_iff_lt, ge_iff_le]
      rw [if_pos h1, bMulOk (by omega)]
      simp only [evB, evS, evE, evEs, evO, evC, evT, evG, evGs, bAdd, bAddT, bSub, bMulL, bMulR, bDivL, bModL, cLt, cLe, cGt, cGe, cIs, cNot, iT0, iT1, fMin, fMax, fAbs, fLenT, tyT, tyI, tyB, tyS, truB, truI, ex_int, ex_bl, ex_tup, ex_some, ex_cons, eq_self, ex_var, eq_int, ne_int, eq_lit, ne_lit, startL, List.map_cons, List.map_nil, List.cons_append, List.nil_append, List.length_cons, List.length_nil, List.replicate, List.getElem?_cons_zero, List.getElem?_cons_succ, List.set_cons_zero, List.set_cons_succ, lenTs, Int.reduceToNat, Int.reducePow, Int.reduceSub, Int.reduceAdd, Int.reduceMul, Int.reduceNeg, Int.reduceLT, Int.reduceLE, Int.reduceEq, Nat.reduceLT, Nat.reduceLeDiff, Nat.reduceAdd, Nat.reduceSub, Nat.reducePow, bPowL, SZ, tyOf, evI, items_ref, items_tup, live_ref, live_tup, lstOf_new, true_and, and_true, ne_eq, not_true_eq_false, not_false_eq_true, Int.cast_ofNat_Int, decide_eq_true_eq, if_true, if_false, ite_true, ite_false, List.nil_append, isB, String.reduceBEq, String.reduceEq, decide_true, decide_false, Bool.false_eq_true, Bool.or_false, Bool.and_false, Bool.or_true, Bool.and_true, Bool.true_and, Bool.false_and, Bool.not_true, Bool.not_false, ite_true, ite_false, reduceIte, Bool.true_or, Bool.false_or, gt_iff_lt, ge_iff_le]
      rw [decide_eq_true h2]
      exact q
theorem wthn_cases (n : Int) : wthn n = .tup [.str "refused", .str "great"] ∨ wthn n = .tup [.str "value", .int n] := by
  unfold wthn
  split
  · exact .inl rfl
  · split
    · exact .inl rfl
    · exact .inr rfl
def lawMost : Nat := 63
def lawK : Nat := 5
def Inv (xs : List PV) (l : Loc) (h : PH) : Prop := (∃ a1 a2 a3 a4 a5 a6 a7, l = [some (.ref 0), a1, a2, a3, a4, a5, a6, a7]) ∧ lstOf h (.ref 0) = some xs
theorem law_true : ∀ ns : List Int, ns.length ≤ lawMost → callS sgT (lawK + 1) (.fn n_law) [.ref 0] [.frl (ns.map PV.int)] (fun v _ => v = .bl true) (fun _ _ => False) := by
  intro ns hl
  rw [call_in (d := d_law) rfl rfl]
  have hl0 : lstOf [.frl (ns.map PV.int)] (.ref 0) = some (ns.map PV.int) := rfl
  simp only [evB, evS, evE, evEs, evO, evC, evT, evG, evGs, bAdd, bAddT, bSub, bMulL, bMulR, bDivL, bModL, cLt, cLe, cGt, cGe, cIs, cNot, iT0, iT1, fMin, fMax, fAbs, fLenT, tyT, tyI, tyB, tyS, truB, truI, ex_int, ex_bl, ex_tup, ex_some, ex_cons, eq_self, ex_var, eq_int, ne_int, eq_lit, ne_lit, startL, List.map_cons, List.map_nil, List.cons_append, List.nil_append, List.length_cons, List.length_nil, List.replicate, List.getElem?_cons_zero, List.getElem?_cons_succ, List.set_cons_zero, List.set_cons_succ, lenTs, Int.reduceToNat, Int.reducePow, Int.reduceSub, Int.reduceAdd, Int.reduceMul, Int.reduceNeg, Int.reduceLT, Int.reduceLE, Int.reduceEq, Nat.reduceLT, Nat.reduceLeDiff, Nat.reduceAdd, Nat.reduceSub, Nat.reducePow, bPowL, SZ, tyOf, evI, items_ref, items_tup, live_ref, live_tup, lstOf_new, true_and, and_true, ne_eq, not_true_eq_false, not_false_eq_true, Int.cast_ofNat_Int, decide_eq_true_eq, if_true, if_false, ite_true, ite_false, List.nil_append, isB, String.reduceBEq, String.reduceEq, decide_true, decide_false, Bool.false_eq_true, Bool.or_false, Bool.and_false, Bool.or_true, Bool.and_true, Bool.true_and, Bool.false_and, Bool.not_true, Bool.not_false, ite_true, ite_false, reduceIte, Bool.true_or, Bool.false_or, gt_iff_lt, ge_iff_le, d_law, b_law, fLenL, hl0, lawK]
  have hn : ns.length ≤ 63 := hl
  rw [List.length_map]
  refine ⟨⟨?_, ?_⟩, ?_⟩
  · split <;> omega
  · split <;> omega
  refine iter_inv (Inv (ns.map PV.int)) (fun _ _ _ => trivial) (fun l h i => ?_) _ (fun x hx l h K i hK => ?_) _ _ ⟨⟨_, _, _, _, _, _, _, rfl⟩, rfl⟩
  · simp only [evB, evS, evE, evEs, evO, evC, evT, evG, evGs, bAdd, bAddT, bSub, bMulL, bMulR, bDivL, bModL, cLt, cLe, cGt, cGe, cIs, cNot, iT0, iT1, fMin, fMax, fAbs, fLenT, tyT, tyI, tyB, tyS, truB, truI, ex_int, ex_bl, ex_tup, ex_some, ex_cons, eq_self, ex_var, eq_int, ne_int, eq_lit, ne_lit, startL, List.map_cons, List.map_nil, List.cons_append, List.nil_append, List.length_cons, List.length_nil, List.replicate, List.getElem?_cons_zero, List.getElem?_cons_succ, List.set_cons_zero, List.set_cons_succ, lenTs, Int.reduceToNat, Int.reducePow, Int.reduceSub, Int.reduceAdd, Int.reduceMul, Int.reduceNeg, Int.reduceLT, Int.reduceLE, Int.reduceEq, Nat.reduceLT, Nat.reduceLeDiff, Nat.reduceAdd, Nat.reduceSub, Nat.reducePow, bPowL, SZ, tyOf, evI, items_ref, items_tup, live_ref, live_tup, lstOf_new, true_and, and_true, ne_eq, not_true_eq_false, not_false_eq_true, Int.cast_ofNat_Int, decide_eq_true_eq, if_true, if_false, ite_true, ite_false, List.nil_append, isB, String.reduceBEq, String.reduceEq, decide_true, decide_false, Bool.false_eq_true, Bool.or_false, Bool.and_false, Bool.or_true, Bool.and_true, Bool.true_and, Bool.false_and, Bool.not_true, Bool.not_false, ite_true, ite_false, reduceIte, Bool.true_or, Bool.false_or, gt_iff_lt, ge_iff_le, sgT, conT, getN]
  · obtain ⟨j, hj, rfl⟩ := mem_range hx
    obtain ⟨⟨a1, a2, a3, a4, a5, a6, a7, rfl⟩, hs⟩ := i
    simp only [evB, evS, evE, evEs, evO, evC, evT, evG, evGs, bAdd, bAddT, bSub, bMulL, bMulR, bDivL, bModL, cLt, cLe, cGt, cGe, cIs, cNot, iT0, iT1, fMin, fMax, fAbs, fLenT, tyT, tyI, tyB, tyS, truB, truI, ex_int, ex_bl, ex_tup, ex_some, ex_cons, eq_self, ex_var, eq_int, ne_int, eq_lit, ne_lit, startL, List.map_cons, List.map_nil, List.cons_append, List.nil_append, List.length_cons, List.length_nil, List.replicate, List.getElem?_cons_zero, List.getElem?_cons_succ, List.set_cons_zero, List.set_cons_succ, lenTs, Int.reduceToNat, Int.reducePow, Int.reduceSub, Int.reduceAdd, Int.reduceMul, Int.reduceNeg, Int.reduceLT, Int.reduceLE, Int.reduceEq, Nat.reduceLT, Nat.reduceLeDiff, Nat.reduceAdd, Nat.reduceSub, Nat.reducePow, bPowL, SZ, tyOf, evI, items_ref, items_tup, live_ref, live_tup, lstOf_new, true_and, and_true, ne_eq, not_true_eq_false, not_false_eq_true, Int.cast_ofNat_Int, decide_eq_true_eq, if_true, if_false, ite_true, ite_false, List.nil_append, isB, String.reduceBEq, String.reduceEq, decide_true, decide_false, Bool.false_eq_true, Bool.or_false, Bool.and_false, Bool.or_true, Bool.and_true, Bool.true_and, Bool.false_and, Bool.not_true, Bool.not_false, ite_true, ite_false, reduceIte, Bool.true_or, Bool.false_or, gt_iff_lt, ge_iff_le]
    have hj' : j < ns.length ∧ j < 30 := by
      split at hj <;> omega
    have gj : ∀ t, lstOf (h ++ t) (.ref 0) = some (ns.map PV.int) := fun t => lstOf_app hs
    have ej : atI (ns.map PV.int) (0 + (j : Int)) = some (.int ns[j]) := by
      rw [Int.zero_add, atI_nat, List.getElem?_map, List.getElem?_eq_getElem hj'.1]; rfl
    simp only [evB, evS, evE, evEs, evO, evC, evT, evG, evGs, bAdd, bAddT, bSub, bMulL, bMulR, bDivL, bModL, cLt, cLe, cGt, cGe, cIs, cNot, iT0, iT1, fMin, fMax, fAbs, fLenT, tyT, tyI, tyB, tyS, truB, truI, ex_int, ex_bl, ex_tup, ex_some, ex_cons, eq_self, ex_var, eq_int, ne_int, eq_lit, ne_lit, startL, List.map_cons, List.map_nil, List.cons_append, List.nil_append, List.length_cons, List.length_nil, List.replicate, List.getElem?_cons_zero, List.getElem?_cons_succ, List.set_cons_zero, List.set_cons_succ, lenTs, Int.reduceToNat, Int.reducePow, Int.reduceSub, Int.reduceAdd, Int.reduceMul, Int.reduceNeg, Int.reduceLT, Int.reduceLE, Int.reduceEq, Nat.reduceLT, Nat.reduceLeDiff, Nat.reduceAdd, Nat.reduceSub, Nat.reducePow, bPowL, SZ, tyOf, evI, items_ref, items_tup, live_ref, live_tup, lstOf_new, true_and, and_true, ne_eq, not_true_eq_false, not_false_eq_true, Int.cast_ofNat_Int, decide_eq_true_eq, if_true, if_false, ite_true, ite_false, List.nil_append, isB, String.reduceBEq, String.reduceEq, decide_true, decide_false, Bool.false_eq_true, Bool.or_false, Bool.and_false, Bool.or_true, Bool.and_true, Bool.true_and, Bool.false_and, Bool.not_true, Bool.not_false, ite_true, ite_false, reduceIte, Bool.true_or, Bool.false_or, gt_iff_lt, ge_iff_le, iRef, hs, ej]
    refine s_mixed (by omega) (by omega) fun m m0 m1 => ?_
    refine s_number m0 m1 fun a t a0 a1 => ?_
    simp only [evB, evS, evE, evEs, evO, evC, evT, evG, evGs, bAdd, bAddT, bSub, bMulL, bMulR, bDivL, bModL, cLt, cLe, cGt, cGe, cIs, cNot, iT0, iT1, fMin, fMax, fAbs, fLenT, tyT, tyI, tyB, tyS, truB, truI, ex_int, ex_bl, ex_tup, ex_some, ex_cons, eq_self, ex_var, eq_int, ne_int, eq_lit, ne_lit, startL, List.map_cons, List.map_nil, List.cons_append, List.nil_append, List.length_cons, List.length_nil, List.replicate, List.getElem?_cons_zero, List.getElem?_cons_succ, List.set_cons_zero, List.set_cons_succ, lenTs, Int.reduceToNat, Int.reducePow, Int.reduceSub, Int.reduceAdd, Int.reduceMul, Int.reduceNeg, Int.reduceLT, Int.reduceLE, Int.reduceEq, Nat.reduceLT, Nat.reduceLeDiff, Nat.reduceAdd, Nat.reduceSub, Nat.reducePow, bPowL, SZ, tyOf, evI, items_ref, items_tup, live_ref, live_tup, lstOf_new, true_and, and_true, ne_eq, not_true_eq_false, not_false_eq_true, Int.cast_ofNat_Int, decide_eq_true_eq, if_true, if_false, ite_true, ite_false, List.nil_append, isB, String.reduceBEq, String.reduceEq, decide_true, decide_false, Bool.false_eq_true, Bool.or_false, Bool.and_false, Bool.or_true, Bool.and_true, Bool.true_and, Bool.false_and, Bool.not_true, Bool.not_false, ite_true, ite_false, reduceIte, Bool.true_or, Bool.false_or, gt_iff_lt, ge_iff_le, iRef, gj, ej]
    refine s_mixed (by omega) (by omega) fun m m0 m1 => ?_
    refine s_beside m0 m1 a0 a1 fun b t' b0 b1 => ?_
    simp only [evB, evS, evE, evEs, evO, evC, evT, evG, evGs, bAdd, bAddT, bSub, bMulL, bMulR, bDivL, bModL, cLt, cLe, cGt, cGe, cIs, cNot, iT0, iT1, fMin, fMax, fAbs, fLenT, tyT, tyI, tyB, tyS, truB, truI, ex_int, ex_bl, ex_tup, ex_some, ex_cons, eq_self, ex_var, eq_int, ne_int, eq_lit, ne_lit, startL, List.map_cons, List.map_nil, List.cons_append, List.nil_append, List.length_cons, List.length_nil, List.replicate, List.getElem?_cons_zero, List.getElem?_cons_succ, List.set_cons_zero, List.set_cons_succ, lenTs, Int.reduceToNat, Int.reducePow, Int.reduceSub, Int.reduceAdd, Int.reduceMul, Int.reduceNeg, Int.reduceLT, Int.reduceLE, Int.reduceEq, Nat.reduceLT, Nat.reduceLeDiff, Nat.reduceAdd, Nat.reduceSub, Nat.reducePow, bPowL, SZ, tyOf, evI, items_ref, items_tup, live_ref, live_tup, lstOf_new, true_and, and_true, ne_eq, not_true_eq_false, not_false_eq_true, Int.cast_ofNat_Int, decide_eq_true_eq, if_true, if_false, ite_true, ite_false, List.nil_append, isB, String.reduceBEq, String.reduceEq, decide_true, decide_false, Bool.false_eq_true, Bool.or_false, Bool.and_false, Bool.or_true, Bool.and_true, Bool.true_and, Bool.false_and, Bool.not_true, Bool.not_false, ite_true, ite_false, reduceIte, Bool.true_or, Bool.false_or, gt_iff_lt, ge_iff_le, e_told]
    rw [bMulOk (by omega)]
    have eM : ∀ {k : Nat} {h : PH} {Q : KQ} {X : KX}, callS sgT (k + 2) (.fn n_two_told) [.str "*", .int a, .int b] h Q X = Q (wthn (a * b)) h := fun {k h Q X} => e_mul (by omega)
    simp only [evB, evS, evE, evEs, evO, evC, evT, evG, evGs, bAdd, bAddT, bSub, bMulL, bMulR, bDivL, bModL, cLt, cLe, cGt, cGe, cIs, cNot, iT0, iT1, fMin, fMax, fAbs, fLenT, tyT, tyI, tyB, tyS, truB, truI, ex_int, ex_bl, ex_tup, ex_some, ex_cons, eq_self, ex_var, eq_int, ne_int, eq_lit, ne_lit, startL, List.map_cons, List.map_nil, List.cons_append, List.nil_append, List.length_cons, List.length_nil, List.replicate, List.getElem?_cons_zero, List.getElem?_cons_succ, List.set_cons_zero, List.set_cons_succ, lenTs, Int.reduceToNat, Int.reducePow, Int.reduceSub, Int.reduceAdd, Int.reduceMul, Int.reduceNeg, Int.reduceLT, Int.reduceLE, Int.reduceEq, Nat.reduceLT, Nat.reduceLeDiff, Nat.reduceAdd, Nat.reduceSub, Nat.reducePow, bPowL, SZ, tyOf, evI, items_ref, items_tup, live_ref, live_tup, lstOf_new, true_and, and_true, ne_eq, not_true_eq_false, not_false_eq_true, Int.cast_ofNat_Int, decide_eq_true_eq, if_true, if_false, ite_true, ite_false, List.nil_append, isB, String.reduceBEq, String.reduceEq, decide_true, decide_false, Bool.false_eq_true, Bool.or_false, Bool.and_false, Bool.or_true, Bool.and_true, Bool.true_and, Bool.false_and, Bool.not_true, Bool.not_false, ite_true, ite_false, reduceIte, Bool.true_or, Bool.false_or, gt_iff_lt, ge_iff_le, e_told, iterL, e_add, e_sub, eM, e_lt, e_eq]
    rcases wthn_cases (a + b) with ea | ea <;> rcases wthn_cases (a - b) with es | es <;> rcases wthn_cases (a * b) with em | em <;> simp only [ea, es, em, evB, evS, evE, evEs, evO, evC, evT, evG, evGs, bAdd, bAddT, bSub, bMulL, bMulR, bDivL, bModL, cLt, cLe, cGt, cGe, cIs, cNot, iT0, iT1, fMin, fMax, fAbs, fLenT, tyT, tyI, tyB, tyS, truB, truI, ex_int, ex_bl, ex_tup, ex_some, ex_cons, eq_self, ex_var, eq_int, ne_int, eq_lit, ne_lit, startL, List.map_cons, List.map_nil, List.cons_append, List.nil_append, List.length_cons, List.length_nil, List.replicate, List.getElem?_cons_zero, List.getElem?_cons_succ, List.set_cons_zero, List.set_cons_succ, lenTs, Int.reduceToNat, Int.reducePow, Int.reduceSub, Int.reduceAdd, Int.reduceMul, Int.reduceNeg, Int.reduceLT, Int.reduceLE, Int.reduceEq, Nat.reduceLT, Nat.reduceLeDiff, Nat.reduceAdd, Nat.reduceSub, Nat.reducePow, bPowL, SZ, tyOf, evI, items_ref, items_tup, live_ref, live_tup, lstOf_new, true_and, and_true, ne_eq, not_true_eq_false, not_false_eq_true, Int.cast_ofNat_Int, decide_eq_true_eq, if_true, if_false, ite_true, ite_false, List.nil_append, isB, String.reduceBEq, String.reduceEq, decide_true, decide_false, Bool.false_eq_true, Bool.or_false, Bool.and_false, Bool.or_true, Bool.and_true, Bool.true_and, Bool.false_and, Bool.not_true, Bool.not_false, ite_true, ite_false, reduceIte, Bool.true_or, Bool.false_or, gt_iff_lt, ge_iff_le, cmp_ne, cmp_eq, lit_inj, okV, flat, flats, dat, dats, SeqAt.shaped, PyData.canLay0, PyData.canLayAll0, PyData.depth, PyData.depthAll, strOk_lit, PyData.eqv, PyData.eqvAll, lit_beq, bqd, String.reduceEq, String.reduceBEq, decide_true, decide_false, Bool.and_true, Bool.true_and, Bool.and_self, Bool.and_false, Bool.false_and, Nat.max_self, Nat.reduceAdd, Nat.reduceLeDiff, Nat.zero_le, Bool.not_true, Bool.not_false, Nat.zero_max, Nat.max_zero, beq_self_eq_true, e_whole_int, bne_self_eq_false]
    all_goals
      refine s_div (by omega) (fun e => ?_) (fun e => ?_)
      · refine s_parted a0 a1 b0 b1 (fun _ => rfl) (fun n => absurd e n) ?_
        simp only [evB, evS, evE, evEs, evO, evC, evT, evG, evGs, bAdd, bAddT, bSub, bMulL, bMulR, bDivL, bModL, cLt, cLe, cGt, cGe, cIs, cNot, iT0, iT1, fMin, fMax, fAbs, fLenT, tyT, tyI, tyB, tyS, truB, truI, ex_int, ex_bl, ex_tup, ex_some, ex_cons, eq_self, ex_var, eq_int, ne_int, eq_lit, ne_lit, startL, List.map_cons, List.map_nil, List.cons_append, List.nil_append, List.length_cons, List.length_nil, List.replicate, List.getElem?_cons_zero, List.getElem?_cons_succ, List.set_cons_zero, List.set_cons_succ, lenTs, Int.reduceToNat, Int.reducePow, Int.reduceSub, Int.reduceAdd, Int.reduceMul, Int.reduceNeg, Int.reduceLT, Int.reduceLE, Int.reduceEq, Nat.reduceLT, Nat.reduceLeDiff, Nat.reduceAdd, Nat.reduceSub, Nat.reducePow, bPowL, SZ, tyOf, evI, items_ref, items_tup, live_ref, live_tup, lstOf_new, true_and, and_true, ne_eq, not_true_eq_false, not_false_eq_true, Int.cast_ofNat_Int, decide_eq_true_eq, if_true, if_false, ite_true, ite_false, List.nil_append, isB, String.reduceBEq, String.reduceEq, decide_true, decide_false, Bool.false_eq_true, Bool.or_false, Bool.and_false, Bool.or_true, Bool.and_true, Bool.true_and, Bool.false_and, Bool.not_true, Bool.not_false, ite_true, ite_false, reduceIte, Bool.true_or, Bool.false_or, gt_iff_lt, ge_iff_le]
        refine hK _ _ ⟨⟨_, _, _, _, _, _, _, rfl⟩, ?_⟩
        repeat (first | exact hs | refine lstOf_app ?_)
      · refine s_parted a0 a1 b0 b1 (fun n => absurd n e) (fun _ => rfl) ?_
        simp only [evB, evS, evE, evEs, evO, evC, evT, evG, evGs, bAdd, bAddT, bSub, bMulL, bMulR, bDivL, bModL, cLt, cLe, cGt, cGe, cIs, cNot, iT0, iT1, fMin, fMax, fAbs, fLenT, tyT, tyI, tyB, tyS, truB, truI, ex_int, ex_bl, ex_tup, ex_some, ex_cons, eq_self, ex_var, eq_int, ne_int, eq_lit, ne_lit, startL, List.map_cons, List.map_nil, List.cons_append, List.nil_append, List.length_cons, List.length_nil, List.replicate, List.getElem?_cons_zero, List.getElem?_cons_succ, List.set_cons_zero, List.set_cons_succ, lenTs, Int.reduceToNat, Int.reducePow, Int.reduceSub, Int.reduceAdd, Int.reduceMul, Int.reduceNeg, Int.reduceLT, Int.reduceLE, Int.reduceEq, Nat.reduceLT, Nat.reduceLeDiff, Nat.reduceAdd, Nat.reduceSub, Nat.reducePow, bPowL, SZ, tyOf, evI, items_ref, items_tup, live_ref, live_tup, lstOf_new, true_and, and_true, ne_eq, not_true_eq_false, not_false_eq_true, Int.cast_ofNat_Int, decide_eq_true_eq, if_true, if_false, ite_true, ite_false, List.nil_append, isB, String.reduceBEq, String.reduceEq, decide_true, decide_false, Bool.false_eq_true, Bool.or_false, Bool.and_false, Bool.or_true, Bool.and_true, Bool.true_and, Bool.false_and, Bool.not_true, Bool.not_false, ite_true, ite_false, reduceIte, Bool.true_or, Bool.false_or, gt_iff_lt, ge_iff_le]
        refine hK _ _ ⟨⟨_, _, _, _, _, _, _, rfl⟩, ?_⟩
        repeat (first | exact hs | refine lstOf_app ?_)
end Py

set_option Elab.async false
set_option linter.all false
set_option maxRecDepth 100000
set_option maxHeartbeats 0
open PySem PySem.W PySem.Calls PyProof.Rows
theorem PySem.Challenge.cw_elderhouse_k40_two_numbers_holds : PySem.Challenge.rw_elderhouse_k40_two_numbers.Holds := by
  w_on; o_law
  refine HandSHeadRun.head_any (r := OpenLaw.row PySem.Challenge.rw_elderhouse_k40_two_numbers) (q := view (OpenLaw.row PySem.Challenge.rw_elderhouse_k40_two_numbers).prog [11]) (H := Py.hk) (ob := Py.ob) (M := 100000) (loose := Py.topNames) (d := HandSHeadRun.topDef (OpenLaw.row PySem.Challenge.rw_elderhouse_k40_two_numbers).prog 11) (kwd := []) Py.ob_eq
    (by kernel_rfl) (fun s => by kernel_rfl) Py.run (by kernel_rfl) (by kernel_rfl) (by kernel_rfl) (by rfl) (by first | assumption | decide +kernel) (by decide +kernel) ⟨rfl, rfl, rfl, rfl, rfl, by decide +kernel⟩ ?hw ?hc
  case hw => w_witness2
  case hc =>
    refine Py.walk_ofG (l := PySem.Challenge.rw_elderhouse_k40_two_numbers) (n := Py.lawMost) (k := Py.lawK + 1) (x := "_law_script") rfl (by decide) (by kernel_rfl) ⟨rfl, by decide, by decide⟩ ?F
    intro w mg fa h Y G hmg0
    obtain ⟨K, KX, c⟩ := Y
    have hmg : mg ("law" : PySem.Str) = some (.ref fa) := by
      have e : (HandSHeadRun.topDef (OpenLaw.row PySem.Challenge.rw_elderhouse_k40_two_numbers).prog 11).name = ("law" : PySem.Str) := by kernel_rfl
      rw [← e]
      exact hmg0
    obtain ⟨fd, hb, hF⟩ := Py.facts (P := (PySem.Challenge.rw_elderhouse_k40_two_numbers).prog) (w := w) (k := Py.lawK) (n := 1) KX G hmg c
    exact ⟨K, fd, Py.spF (Py.moT K) (Py.lawK + 1) Py.n_law 1, KX, hb, fun H a ns hl hO hS => Py.law_sp (n := Py.lawMost) (dL := Py.d_law) rfl rfl Py.law_true H a ns hl hO hS, hF⟩

