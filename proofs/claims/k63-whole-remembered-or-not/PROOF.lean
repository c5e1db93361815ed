import PyProof.Rows.All
import Wide.All
import OpenK.AllK
import Wide.FinOn
import HandS.ForMost
import HandS.Wide
import HandS.CallSlots
import HandS.Defaults
import HandS.Ends
import HandS.Walk
import HandS.TupAny
import HandS.TupMul
import HandS.ForExc
import HandS.IsInst
import HandS.Dict
import PyProof.ListMulRoad
import PyProof.FactsAll.tuple_2
import PyProof.StrOps2
import HandS.Deep
import HandS.RaiseMore
import HandS.Text
import HandS.Comp
import HandS.List
import HandS.Style
import HandS.CallRecv
import HandS.Small
import HandS.Codes
import HandS.HeadHook1
import HandS.HeadHook2
import HandS.HeadHook3
import HandS.HeadHook4
import KE.KStateDown
import HandS.Head0
import HandS.Head1
import HandS.Head2
import HandS.MakeKw
import PySem.Challenge.RW_elderhouse_k63_whole_remembered_or_not
set_option Elab.async false
set_option linter.all false
set_option maxRecDepth 100000
/-! PyDen: a small semantics of the Python at hand: values (tuples are values), a heap as a list, a reading of each form as a predicate transformer. -/
namespace Py
open PySem

/-! ### values and objects -/
inductive PV where
  | non | bl (b : Bool) | int (i : Int) | str (s : Str) | tup (xs : List PV) | ref (a : Nat)
inductive PO where
  | lst (xs : List PV)
  | frl (xs : List PV)
  | dic (kvs : List (PV × PV))
  | ins (c : Nat) (fs : List (Nat × PV))
abbrev PH := List PO
abbrev Loc := List (Option PV)
abbrev KQ := PV → PH → Prop
structure XV where
  c : Nat
  fs : List (Nat × PV)
abbrev KX := XV → PH → Prop
abbrev SZ : Nat := 16777216

/-! ### syntax -/
inductive BO where
  | add | sub | mul | fdiv | mod | pow
  deriving DecidableEq
inductive CO where
  | eq | ne | lt | le | gt | ge | inn | nin | isN | notN
  deriving DecidableEq
/-- built-in functions -/
inductive BF where
  | len | list1 | tuple1 | tuple0 | isInt | isBool | isStr | isList | isTuple | min2 | max2 | minL | maxL | sumL | abs | int1 | str1 | repr1 | sorted1 | all1 | dict1 | dict0
  deriving DecidableEq
/-- methods of built-in types -/
inductive BM where
  | append | extend | pop0 | pop1 | insert | reverse | clear | index | get1 | get2 | join | split | startswith | update | isalnum | upper
  deriving DecidableEq
mutual
inductive E where
  | var (i : Nat) | int (i : Int) | str (s : Str) | bl (b : Bool) | non
  | glob (g : Nat)
  | bin (o : BO) (a b : E) | neg (a : E) | nt (a : E) | and (a b : E) | or (a b : E)
  | cmp (o : CO) (a b : E) | chain (o o' : CO) (a b c : E) | ite (c : C) (a b : E)
  | tup (es : Es) | lst (es : Es) | dic0
  | idx (a b : E) | slc (a : E) (lo hi : OE)
  | attr (a : E) (f : Nat)
  | call (f : Nat) (args : Es) | mk (c : Nat) (args : Es) | mkK (c : Nat) (args : Es) (last : E) | slr (a : E) | dicl (ks : List Str) (vs : Es) | meth (o : E) (m : Nat) (args : Es) | ini (c : Nat) (args : Es)
  | isi (f : BF) (a : E) | bf (f : BF) (args : Es) | bm (m : BM) (o : E) (args : Es)
  | lc (elt : E) (t : T) (it : I) (cond : OC)
  | dget (o a b : E)
inductive Es where
  | nil | cons (e : E) (es : Es)
inductive OE where
  | no | so (e : E)
/-- tests -/
inductive C where
  | v (e : E) | cmp (o : CO) (a b : E) | chain (o o' : CO) (a b c : E) | nt (c : C) | and (a b : C) | or (a b : C)
inductive OC where
  | no | so (c : C)
/-- what a loop walks -/
inductive I where
  | seq (e : E) | rng1 (a : E) | rng2 (a b : E) | enu (e : E) | zip2 (a b : E) | rev (e : E)
/-- targets -/
inductive T where
  | nm (i : Nat) | tup (ts : Ts) | attr (o : E) (f : Nat) | sub (o i : E)
inductive Ts where
  | nil | cons (t : T) (ts : Ts)
end
mutual
inductive S where
  | asg (t : T) (e : E) | aug (i : Nat) (o : BO) (e : E) | augF (ob : E) (f : Nat) (o : BO) (e : E) | augS (ob ix : E) (o : BO) (e : E)
  | exp (e : E) | ret (e : E) | retN | ife (c : C) (a b : B) | for (t : T) (it : I) (b : B) | whl (c : C) (b : B) | pas | cont
  | rais (c : Nat) (args : Es) | rai0
inductive B where
  | nil | cons (s : S) (b : B)
end

/-! ### looks at the heap -/
def lstOf (h : PH) : PV → Option (List PV)
  | .ref a => match h[a]? with
    | some (.lst xs) => some xs
    | some (.frl xs) => some xs
    | _ => none
  | _ => none
def seqOf (h : PH) : PV → Option (List PV)
  | .tup xs => some xs
  | v => lstOf h v
def dicOf (h : PH) : PV → Option (List (PV × PV))
  | .ref a => match h[a]? with
    | some (.dic kvs) => some kvs
    | _ => none
  | _ => none
def truV (h : PH) : PV → Option Bool
  | .non => some false
  | .bl b => some b
  | .int i => some (i != 0)
  | .str s => if s.length ≤ SZ then some ((s.length : Int) != 0) else none
  | .tup xs => some (!xs.isEmpty)
  | .ref a => match h[a]? with
    | some (.lst xs) => some (!xs.isEmpty)
    | some (.frl xs) => some (!xs.isEmpty)
    | some (.dic kvs) => some (!kvs.isEmpty)
    | _ => none
/-! a value as data -/
mutual
def Dat (h : PH) : PyData → PV → Prop
  | .none, v => v = .non
  | .bool b, v => v = .bl b
  | .int i, v => v = .int i
  | .str s, v => v = .str s
  | .tuple ds, v => ∃ xs, v = .tup xs ∧ Dats h ds xs
  | .list ds, v => ∃ xs, lstOf h v = some xs ∧ Dats h ds xs
  | .dict _, _ => False
def Dats (h : PH) : List PyData → List PV → Prop
  | [], xs => xs = []
  | d :: ds, xs => ∃ y ys, xs = y :: ys ∧ Dat h d y ∧ Dats h ds ys
end
def putN (f : Nat) (v : PV) : List (Nat × PV) → List (Nat × PV)
  | [] => [(f, v)]
  | (g, x) :: r => if g = f then (g, v) :: r else (g, x) :: putN f v r
def getN (f : Nat) : List (Nat × PV) → Option PV
  | [] => none
  | (g, x) :: r => if g = f then some x else getN f r
def ixN (n : Nat) (i : Int) : Option Nat := if 0 ≤ i then (if i < n then some i.toNat else none) else if -(n : Int) ≤ i then some (i + n).toNat else none
def atI {α : Type} (xs : List α) (i : Int) : Option α := (ixN xs.length i).bind fun j => xs[j]?
def sIx (n d : Nat) : Option Int → Nat
  | none => d
  | some v => if v < 0 then (v + (n : Int)).toNat else min v.toNat n
def cut {α : Type} (xs : List α) (lo hi : Option Int) : List α := (xs.drop (sIx xs.length 0 lo)).take (sIx xs.length xs.length hi - sIx xs.length 0 lo)

/-! ### operators -/
def mulOk (i j : Int) : Prop := (-(2 ^ 64) < i ∧ i < 2 ^ 64) ∨ (-(2 ^ 64) < j ∧ j < 2 ^ 64)
def binV : BO → PV → PV → PH → KQ → Prop
  | .add, .int i, .int j, h, Q => Q (.int (i + j)) h
  | .add, .str i, .str j, h, Q => i.length + j.length ≤ SZ ∧ Q (.str (i ++ j)) h
  | .add, .tup xs, .tup ys, h, Q => xs.length + ys.length ≤ SZ ∧ Q (.tup (xs ++ ys)) h
  | .add, .ref a, .ref b, h, Q => ∃ xs ys, h[a]? = some (.lst xs) ∧ h[b]? = some (.lst ys) ∧ xs.length + ys.length ≤ SZ ∧ Q (.ref h.length) (h ++ [.lst (xs ++ ys)])
  | .sub, .int i, .int j, h, Q => Q (.int (i - j)) h
  | .mul, .int i, .int j, h, Q => mulOk i j ∧ Q (.int (i * j)) h
  | .mul, .str a, .int k, h, Q => (-(2 ^ 63) ≤ k ∧ k < 2 ^ 63 ∧ a.length * k.toNat ≤ SZ ∧ a.length ≤ SZ) ∧ Q (.str ⟨(List.replicate k.toNat a.cps.toList).flatten.toArray⟩) h
  | .mul, .tup xs, .int k, h, Q => (xs ≠ [] ∧ -1000 ≤ k ∧ k ≤ 1000 ∧ xs.length ≤ 1000) ∧ Q (.tup (List.replicate k.toNat xs).flatten) h
  | .mul, .ref a, .int k, h, Q => ∃ xs, h[a]? = some (.lst xs) ∧ -(2 ^ 63) ≤ k ∧ k < 2 ^ 63 ∧ xs.length * k.toNat ≤ SZ ∧ Q (.ref h.length) (h ++ [.lst (List.replicate k.toNat xs).flatten])
  | .fdiv, .int i, .int j, h, Q => j ≠ 0 ∧ j.natAbs.log2 < 9000 ∧ Q (.int (i.fdiv j)) h
  | .mod, .int i, .int j, h, Q => j ≠ 0 ∧ Q (.int (i.fmod j)) h
  | .pow, .int i, .int j, h, Q => (0 ≤ j ∧ j ≤ 1000000 ∧ i.natAbs < 2 ^ 64) ∧ Q (.int (i ^ j.toNat)) h
  | _, _, _, _, _ => False
def isNonB : PV → Bool
  | .non => true
  | _ => false
def isBlB (b : Bool) : PV → Bool
  | .bl c => c == b
  | _ => false
def flP : PV → Bool
  | .non => true
  | .bl _ => true
  | .int _ => true
  | .str _ => true
  | _ => false
def eqP : PV → PV → Bool
  | .non, .non => true
  | .bl a, .bl b => a == b
  | .bl a, .int b => (if a then 1 else 0) == b
  | .int a, .bl b => a == (if b then 1 else 0)
  | .int a, .int b => a == b
  | .str a, .str b => a == b
  | _, _ => false
def notRef : PV → Bool
  | .ref _ => false
  | .tup _ => false
  | _ => true
def cmpV : CO → PV → PV → PH → (Bool → PH → Prop) → Prop
  | .eq, .str a, .str b, h, Q => Q (decide (a = b)) h
  | .ne, .str a, .str b, h, Q => Q (!decide (a = b)) h
  | .inn, .str a, .str b, h, Q => ∃ c, a = ⟨#[c]⟩ ∧ Q (decide (c ∈ b.cps.toList)) h
  | .nin, .str a, .str b, h, Q => ∃ c, a = ⟨#[c]⟩ ∧ Q (!decide (c ∈ b.cps.toList)) h
  | .inn, x, y, h, Q => ∃ xs, seqOf h y = some xs ∧ flP x = true ∧ xs.all flP = true ∧ Q (xs.any fun z => eqP z x) h
  | .nin, x, y, h, Q => ∃ xs, seqOf h y = some xs ∧ flP x = true ∧ xs.all flP = true ∧ Q (!xs.any fun z => eqP z x) h
  | .isN, x, .bl b, h, Q => notRef x = true ∧ Q (isBlB b x) h
  | .notN, x, .bl b, h, Q => notRef x = true ∧ Q (!isBlB b x) h
  | .eq, x, y, h, Q => ∃ d e, Dat h d x ∧ Dat h e y ∧ SeqAt.shaped d = true ∧ SeqAt.shaped e = true ∧ Q (PyData.eqv d e) h
  | .ne, x, y, h, Q => ∃ d e, Dat h d x ∧ Dat h e y ∧ SeqAt.shaped d = true ∧ SeqAt.shaped e = true ∧ Q (!PyData.eqv d e) h
  | .lt, .int i, .int j, h, Q => Q (decide (i < j)) h
  | .le, .int i, .int j, h, Q => Q (decide (i ≤ j)) h
  | .gt, .int i, .int j, h, Q => Q (decide (j < i)) h
  | .ge, .int i, .int j, h, Q => Q (decide (j ≤ i)) h
  | .isN, x, .non, h, Q => Q (isNonB x) h
  | .notN, x, .non, h, Q => Q (!isNonB x) h
  | _, _, _, _, _ => False
/-- keys -/
def eqK : PV → PV → Bool
  | .int i, .int j => decide (i = j)
  | .str i, .str j => decide (i = j)
  | _, _ => false
def isK : PV → Bool
  | .int _ => true
  | .str _ => true
  | _ => false
def lookD (k : PV) : List (PV × PV) → Option PV
  | [] => none
  | (x, y) :: r => if eqK x k = true then some y else lookD k r
def putD (k v : PV) (kvs : List (PV × PV)) : List (PV × PV) := if (kvs.any fun p => eqK p.1 k) = true then kvs.map (fun p => if eqK p.1 k = true then (p.1, v) else p) else kvs ++ [(k, v)]
def idxV : PV → PV → PH → KQ → Prop
  | .tup xs, .int i, h, Q => ∃ v, atI xs i = some v ∧ Q v h
  | .str s, .int i, h, Q => s.length ≤ SZ ∧ ∃ c, atI s.cps.toList i = some c ∧ Q (.str ⟨#[c]⟩) h
  | .ref a, .int i, h, Q => ∃ xs v, lstOf h (.ref a) = some xs ∧ atI xs i = some v ∧ Q v h
  | .ref a, .str k, h, Q => ∃ kvs v, h[a]? = some (.dic kvs) ∧ lookD (.str k) kvs = some v ∧ Q v h
  | _, _, _, _ => False
/-- a written dict -/
def mergeD (kvs : List (PV × PV)) : List Str → List PV → List (PV × PV)
  | k :: ks, v :: vs => mergeD (putD (.str k) v kvs) ks vs
  | _, _ => kvs
/-- o[i] = v -/
def putV (x y v : PV) (h : PH) (Q : PH → Prop) : Prop := match x with
  | .ref p => match h[p]? with
    | some (.lst xs) => ∃ k j, y = .int k ∧ ixN xs.length k = some j ∧ Q (h.set p (.lst (xs.set j v)))
    | some (.dic kvs) => isK y = true ∧ kvs.length < SZ ∧ Q (h.set p (.dic (putD y v kvs)))
    | _ => False
  | _ => False
def slcV : PV → Option Int → Option Int → PH → KQ → Prop
  | .tup xs, lo, hi, h, Q => Q (.tup (cut xs lo hi)) h
  | .str s, lo, hi, h, Q => s.length ≤ SZ ∧ Q (.str ⟨(cut s.cps.toList lo hi).toArray⟩) h
  | .ref a, lo, hi, h, Q => ∃ xs, lstOf h (.ref a) = some xs ∧ Q (.ref h.length) (h ++ [.lst (cut xs lo hi)])
  | _, _, _, _, _ => False

/-! ### built-in functions, methods -/
/-- the type of a value -/
def tyN (h : PH) : PV → Option String
  | .non => some "NoneType"
  | .bl _ => some "bool"
  | .int _ => some "int"
  | .str _ => some "str"
  | .tup _ => some "tuple"
  | .ref a => match h[a]? with
    | some (.lst _) => some "list"
    | some (.frl _) => some "list"
    | some (.dic _) => some "dict"
    | _ => none
def isB (T : String) (t : String) : Bool := t == T || (T == "int" && t == "bool")
def tyOf : BF → String
  | .isInt => "int"
  | .isBool => "bool"
  | .isStr => "str"
  | .isList => "list"
  | _ => "tuple"
def bfV : BF → List PV → PH → KQ → Prop
  | .len, [.str s], h, Q => s.length ≤ SZ ∧ Q (.int s.length) h
  | .len, [v], h, Q => ∃ xs, seqOf h v = some xs ∧ Q (.int xs.length) h
  | .list1, [v], h, Q => ∃ xs, seqOf h v = some xs ∧ Q (.ref h.length) (h ++ [.lst xs])
  | .tuple1, [.tup xs], h, Q => Q (.tup xs) h
  | .tuple1, [v], h, Q => ∃ xs, lstOf h v = some xs ∧ Q (.tup xs) h
  | .min2, [.int i, .int j], h, Q => Q (.int (if j < i then j else i)) h
  | .max2, [.int i, .int j], h, Q => Q (.int (if j > i then j else i)) h
  | .int1, [.int i], h, Q => Q (.int i) h
  | .int1, [.bl b], h, Q => Q (.int (if b then 1 else 0)) h
  | .str1, [.int i], h, Q => i.natAbs.log2 < 1920 ∧ Q (.str (toString i)) h
  | .str1, [.str a], h, Q => Q (.str a) h
  | .repr1, [.int i], h, Q => i.natAbs.log2 < 1920 ∧ Q (.str (Str.ofString (toString i))) h
  | .repr1, [.non], h, Q => Q (.str (Str.ofString "None")) h
  | .repr1, [v], h, Q => ∃ d, notRef v = false ∧ Dat h d v ∧ SeqAt.shaped d = true ∧ d.showable = true ∧ d.shown.length ≤ SZ ∧ Q (.str d.shown) h
  | .abs, [.int i], h, Q => Q (.int (if i < 0 then -i else i)) h
  | .sumL, [v], h, Q => ∃ ns : List Int, lstOf h v = some (ns.map PV.int) ∧ Q (.int ns.sum) h
  | .maxL, [v], h, Q => ∃ (ns : List Int) (m : Int), lstOf h v = some (ns.map PV.int) ∧ m ∈ ns ∧ (∀ y ∈ ns, y ≤ m) ∧ Q (.int m) h
  | .minL, [v], h, Q => ∃ (ns : List Int) (m : Int), lstOf h v = some (ns.map PV.int) ∧ m ∈ ns ∧ (∀ y ∈ ns, m ≤ y) ∧ Q (.int m) h
  | .all1, [v], h, Q => ∃ bs : List Bool, lstOf h v = some (bs.map PV.bl) ∧ Q (.bl (bs.all id)) h
  | _, _, _, _ => False
/-- the type of a method's receiver -/
def bmT : BM → String
  | .append => "list" | .extend => "list" | .pop0 => "list" | .pop1 => "list" | .insert => "list" | .reverse => "list" | .clear => "list" | .index => "list" | .get1 => "dict" | .get2 => "dict" | .update => "dict" | _ => "str"
def bmV : BM → PV → List PV → PH → KQ → Prop
  | .append, .ref a, [y], h, Q => ∃ xs, h[a]? = some (.lst xs) ∧ xs.length < SZ ∧ Q .non (h.set a (.lst (xs ++ [y])))
  | .extend, .ref a, [.ref b], h, Q => ∃ xs ys, h[a]? = some (.lst xs) ∧ h[b]? = some (.lst ys) ∧ xs.length + ys.length ≤ SZ ∧ Q .non (h.set a (.lst (xs ++ ys)))
  | .pop0, .ref a, [], h, Q => ∃ xs y, h[a]? = some (.lst xs) ∧ xs[xs.length - 1]? = some y ∧ Q y (h.set a (.lst xs.dropLast))
  | .reverse, .ref a, [], h, Q => ∃ xs, h[a]? = some (.lst xs) ∧ Q .non (h.set a (.lst xs.reverse))
  | .clear, .ref a, [], h, Q => ∃ xs, h[a]? = some (.lst xs) ∧ Q .non (h.set a (.lst []))
  | .pop1, .ref a, [.int i], h, Q => ∃ xs j y, h[a]? = some (.lst xs) ∧ (-(2 ^ 63) ≤ i ∧ i < 2 ^ 63) ∧ seqIndex? i xs.length = some j ∧ xs[j]? = some y ∧ Q y (h.set a (.lst (xs.eraseIdx j)))
  | .join, .str a, [v], h, Q => ∃ ys : List Str, seqOf h v = some (ys.map PV.str) ∧ (ys.map (·.length)).sum + ys.length * a.length ≤ 16777216 ∧ Q (.str (Txt.join a ys)) h
  | .split, .str a, [.str b], h, Q => (b.length == 0) = false ∧ a.length + 2 ≤ SZ ∧ Q (.ref h.length) (h ++ [.lst ((Txt.split a b).map PV.str)])
  | .startswith, .str a, [.str b], h, Q => Q (.bl (Txt.startswith a b)) h
  | .isalnum, .str a, [], h, Q => Q (.bl (Txt.isalnum a)) h
  | .upper, .str a, [], h, Q => a.length ≤ 5592405 ∧ Q (.str (Txt.upper a)) h
  | _, _, _, _, _ => False

/-! ### programs -/
structure FD where
  np : Nat
  ns : Nat
  body : B
  dfl : List PV := []
  kw : Option Nat := none
structure CD where
  init : Nat
  meths : List (Nat × Nat)
  fields : List Nat
structure Sig where
  fn : Nat → Option FD
  cls : Nat → Option CD
  con : Nat → Option PV
def getM (m : Nat) : List (Nat × Nat) → Option Nat
  | [] => none
  | (g, x) :: r => if g = m then some x else getM m r
inductive FR where
  | fn (f : Nat) | mk (c : Nat)
abbrev CS := FR → List PV → PH → KQ → KX → Prop

def iterL (live : PH → Prop) (body : PV → Loc → PH → (Loc → PH → Prop) → Prop) (fin : Loc → PH → Prop) : List PV → Loc → PH → Prop
  | [], l, h => live h ∧ fin l h
  | x :: r, l, h => live h ∧ body x l h fun l' h' => iterL live body fin r l' h'
def compL (live : PH → Prop) (d : Nat) (body : PV → PH → (Option PV → PH → Prop) → Prop) (fin : PH → Prop) : List PV → PH → Prop
  | [], h => live h ∧ fin h
  | x :: r, h => live h ∧ body x h fun o h' => match o with
    | none => compL live d body fin r h'
    | some y => ∃ acc, h'[d]? = some (.lst acc) ∧ acc.length < SZ ∧ compL live d body fin r (h'.set d (.lst (acc ++ [y])))
def whlN (step : Loc → PH → (Loc → PH → Prop) → Prop) : Nat → Loc → PH → Prop
  | 0, _, _ => False
  | n + 1, l, h => step l h fun l' h' => whlN step n l' h'
abbrev KI := List PV → (PH → Prop) → PH → Prop
def liveL (v : PV) (xs : List PV) : PH → Prop := fun h => match v with
  | .ref _ => lstOf h v = some xs
  | _ => True
def itemsOf (h : PH) : PV → Option (List PV)
  | .str s => some (s.cps.toList.map fun c => .str ⟨#[c]⟩)
  | v => seqOf h v
def enumFrom (n : Nat) : List PV → List PV
  | [] => []
  | x :: r => .tup [.int n, x] :: enumFrom (n + 1) r
def zipT : List PV → List PV → List PV
  | x :: xs, y :: ys => .tup [x, y] :: zipT xs ys
  | _, _ => []
def rangeL (lo : Int) (n : Nat) : List PV := (List.range n).map fun k => .int (lo + (k : Nat))

def lenTs : Ts → Nat
  | .nil => 0
  | .cons _ ts => lenTs ts + 1
mutual
/-- the names of a target -/
def tNs : T → List Nat
  | .nm i => [i]
  | .tup ts => tsNs ts
  | _ => []
def tsNs : Ts → List Nat
  | .nil => []
  | .cons t ts => tNs t ++ tsNs ts
end
def wipeL (l : Loc) : List Nat → Loc
  | [] => l
  | v :: vs => (wipeL l vs).set v none
structure En where
  nx : Loc → PH → Prop
  rt : KQ
  ct : Loc → PH → Prop
  ex : XV → Loc → PH → Prop

mutual
def evE (G : Sig) (cs : CS) (X : KX) : E → Loc → PH → KQ → Prop
  | .var i, l, h, Q => ∃ v, l[i]? = some (some v) ∧ Q v h
  | .int i, _, h, Q => Q (.int i) h
  | .str s, _, h, Q => Q (.str s) h
  | .bl b, _, h, Q => Q (.bl b) h
  | .non, _, h, Q => Q .non h
  | .glob g, _, h, Q => ∃ v, G.con g = some v ∧ Q v h
  | .bin o a b, l, h, Q => evE G cs X a l h fun x h1 => evE G cs X b l h1 fun y h2 => binV o x y h2 Q
  | .neg a, l, h, Q => evE G cs X a l h fun x h1 => ∃ i, x = .int i ∧ Q (.int (-i)) h1
  | .nt a, l, h, Q => evE G cs X a l h fun x h1 => ∃ b, x = .bl b ∧ Q (.bl (!b)) h1
  | .and a b, l, h, Q => evE G cs X a l h fun x h1 => ∃ c, x = .bl c ∧ if c = true then evE G cs X b l h1 Q else Q (.bl false) h1
  | .or a b, l, h, Q => evE G cs X a l h fun x h1 => ∃ c, x = .bl c ∧ if c = true then Q (.bl true) h1 else evE G cs X b l h1 Q
  | .cmp o a b, l, h, Q => evE G cs X a l h fun x h1 => evE G cs X b l h1 fun y h2 => cmpV o x y h2 fun r h3 => Q (.bl r) h3
  | .chain o o' a b c, l, h, Q => evE G cs X a l h fun x h1 => evE G cs X b l h1 fun y h2 => cmpV o x y h2 fun r h3 =>
      if r = true then evE G cs X c l h3 fun z h4 => cmpV o' y z h4 fun r' h5 => Q (.bl r') h5 else Q (.bl false) h3
  | .ite c a b, l, h, Q => evT G cs X c l h fun r h1 => if r = true then evE G cs X a l h1 Q else evE G cs X b l h1 Q
  | .tup es, l, h, Q => evEs G cs X es l h fun xs h1 => xs.length ≤ SZ ∧ Q (.tup xs) h1
  | .lst es, l, h, Q => evEs G cs X es l h fun xs h1 => xs.length ≤ SZ ∧ Q (.ref h1.length) (h1 ++ [.lst xs])
  | .dic0, _, h, Q => Q (.ref h.length) (h ++ [.dic []])
  | .idx a b, l, h, Q => evE G cs X a l h fun x h1 => evE G cs X b l h1 fun y h2 => idxV x y h2 Q
  | .slc a lo hi, l, h, Q => evE G cs X a l h fun x h1 => evO G cs X lo l h1 fun u h2 => evO G cs X hi l h2 fun w h3 => slcV x u w h3 Q
  | .attr a f, l, h, Q => evE G cs X a l h fun x h1 => ∃ p c fs v cd, x = .ref p ∧ h1[p]? = some (.ins c fs) ∧ G.cls c = some cd ∧ cd.fields.contains f = true ∧ getN f fs = some v ∧ Q v h1
  | .call f args, l, h, Q => evEs G cs X args l h fun xs h1 => cs (.fn f) xs h1 Q X
  | .mk c args, l, h, Q => evEs G cs X args l h fun xs h1 => cs (.mk c) xs h1 Q X
  | .mkK c args e, l, h, Q => evEs G cs X args l h fun xs h1 => evE G cs X e l h1 fun z h2 => ∃ cd d, G.cls c = some cd ∧ G.fn cd.init = some d ∧ d.kw.isSome = true ∧ xs.length + 2 ≤ d.np ∧ d.np - 2 - xs.length ≤ d.dfl.length - 1 ∧
      cs (.mk c) (xs ++ d.dfl.dropLast.drop (d.dfl.length - 1 - (d.np - 2 - xs.length)) ++ [z]) h2 Q X
  | .dicl ks vs, l, h, Q => evEs G cs X vs l (h ++ [.dic []]) fun xs h2 => h2[h.length]? = some (.dic []) ∧ xs.length = ks.length ∧ ks.length ≤ 15 ∧ Q (.ref h.length) (h2.set h.length (.dic (mergeD [] ks xs)))
  | .slr a, l, h, Q => evE G cs X a l h fun x h1 => ∃ p xs, x = .ref p ∧ lstOf h1 (.ref p) = some xs ∧ Q (.ref h1.length) (h1 ++ [.lst xs.reverse])
  | .meth o m args, l, h, Q => evE G cs X o l h fun x h1 => ∃ p c fs cd f, x = .ref p ∧ h1[p]? = some (.ins c fs) ∧ G.cls c = some cd ∧ getM m cd.meths = some f ∧
      evEs G cs X args l h1 fun xs h2 => cs (.fn f) (x :: xs) h2 Q X
  | .ini c args, l, h, Q => ∃ cd, G.cls c = some cd ∧ evEs G cs X args l h fun xs h1 => cs (.fn cd.init) xs h1 Q X
  | .isi f a, l, h, Q => evE G cs X a l h fun x h1 => ∃ t, tyN h1 x = some t ∧ Q (.bl (isB (tyOf f) t)) h1
  | .bf f args, l, h, Q => evEs G cs X args l h fun xs h1 => bfV f xs h1 Q
  | .bm m o args, l, h, Q => evE G cs X o l h fun x h1 => tyN h1 x = some (bmT m) ∧ evEs G cs X args l h1 fun xs h2 => bmV m x xs h2 Q
  | .lc elt t it cond, l, h, Q => evI G cs X it l h fun items live h1 =>
      compL live h1.length (fun x h2 k => evG G cs (fun _ _ => False) t x (wipeL l (tNs t)) h2 fun l' h3 => evC G cs (fun _ _ => False) cond l' h3 fun b h4 =>
        if b = true then evE G cs (fun _ _ => False) elt l' h4 fun y h5 => k (some y) h5 else k none h4) (fun h2 => Q (.ref h1.length) h2) items (h1 ++ [.lst []])
  | .dget o a b, l, h, Q => evE G cs X o l h fun x h1 => tyN h1 x = some "dict" ∧ evE G cs X a l h1 fun y h2 => evE G cs X b l h2 fun z h3 => ∃ p kvs, x = .ref p ∧ h3[p]? = some (.dic kvs) ∧ isK y = true ∧ Q ((lookD y kvs).getD z) h3
def evEs (G : Sig) (cs : CS) (X : KX) : Es → Loc → PH → (List PV → PH → Prop) → Prop
  | .nil, _, h, Q => Q [] h
  | .cons e es, l, h, Q => evE G cs X e l h fun x h1 => evEs G cs X es l h1 fun xs h2 => Q (x :: xs) h2
def evO (G : Sig) (cs : CS) (X : KX) : OE → Loc → PH → (Option Int → PH → Prop) → Prop
  | .no, _, h, Q => Q none h
  | .so e, l, h, Q => evE G cs X e l h fun x h1 => ∃ i, x = .int i ∧ Q (some i) h1
def evC (G : Sig) (cs : CS) (X : KX) : OC → Loc → PH → (Bool → PH → Prop) → Prop
  | .no, _, h, Q => Q true h
  | .so c, l, h, Q => evT G cs X c l h Q
/-- a test -/
def evT (G : Sig) (cs : CS) (X : KX) : C → Loc → PH → (Bool → PH → Prop) → Prop
  | .v e, l, h, Q => evE G cs X e l h fun x h1 => ∃ b, truV h1 x = some b ∧ Q b h1
  | .cmp o a b, l, h, Q => evE G cs X a l h fun x h1 => evE G cs X b l h1 fun y h2 => cmpV o x y h2 Q
  | .chain o o' a b c, l, h, Q => evE G cs X a l h fun x h1 => evE G cs X b l h1 fun y h2 => cmpV o x y h2 fun r h3 =>
      if r = true then evE G cs X c l h3 fun z h4 => cmpV o' y z h4 Q else Q false h3
  | .nt a, l, h, Q => evT G cs X a l h fun b h1 => Q (!b) h1
  | .and a b, l, h, Q => evT G cs X a l h fun c h1 => if c = true then evT G cs X b l h1 Q else Q false h1
  | .or a b, l, h, Q => evT G cs X a l h fun c h1 => if c = true then Q true h1 else evT G cs X b l h1 Q
def evI (G : Sig) (cs : CS) (X : KX) : I → Loc → PH → KI → Prop
  | .seq e, l, h, R => evE G cs X e l h fun x h1 => ∃ xs, itemsOf h1 x = some xs ∧ R xs (liveL x xs) h1
  | .rng1 a, l, h, R => evE G cs X a l h fun x h1 => ∃ j, x = .int j ∧ (-(2 ^ 62) ≤ j ∧ j < 2 ^ 62) ∧ R (rangeL 0 j.toNat) (fun _ => True) h1
  | .rng2 a b, l, h, R => evE G cs X a l h fun x h1 => evE G cs X b l h1 fun y h2 => ∃ i j, x = .int i ∧ y = .int j ∧ (-(2 ^ 62) ≤ i ∧ i < 2 ^ 62 ∧ -(2 ^ 62) ≤ j ∧ j < 2 ^ 62) ∧ R (rangeL i (j - i).toNat) (fun _ => True) h2
  | .enu e, l, h, R => evE G cs X e l h fun x h1 => ∃ xs, lstOf h1 x = some xs ∧ R (enumFrom 0 xs) (liveL x xs) h1
  | .zip2 a b, l, h, R => evE G cs X a l h fun x h1 => evE G cs X b l h1 fun y h2 => ∃ xs ys, lstOf h2 x = some xs ∧ lstOf h2 y = some ys ∧ R (zipT xs ys) (fun h => liveL x xs h ∧ liveL y ys h) h2
  | .rev e, l, h, R => evE G cs X e l h fun x h1 => ∃ xs, lstOf h1 x = some xs ∧ R xs.reverse (liveL x xs) h1
/-- a target takes a value -/
def evG (G : Sig) (cs : CS) (X : KX) : T → PV → Loc → PH → (Loc → PH → Prop) → Prop
  | .nm i, v, l, h, Q => i < l.length ∧ Q (l.set i (some v)) h
  | .tup ts, v, l, h, Q => ∃ xs, v = .tup xs ∧ xs.length = lenTs ts ∧ evGs G cs X ts xs l h Q
  | .attr o f, v, l, h, Q => evE G cs X o l h fun x h1 => ∃ p c fs cd, x = .ref p ∧ h1[p]? = some (.ins c fs) ∧ G.cls c = some cd ∧ cd.fields.contains f = true ∧ fs.length < 900 ∧ Q l (h1.set p (.ins c (putN f v fs)))
  | .sub o i, v, l, h, Q => evE G cs X o l h fun x h1 => evE G cs X i l h1 fun y h2 => putV x y v h2 (Q l)
def evGs (G : Sig) (cs : CS) (X : KX) : Ts → List PV → Loc → PH → (Loc → PH → Prop) → Prop
  | .nil, vs, l, h, Q => vs = [] ∧ Q l h
  | .cons t ts, vs, l, h, Q => ∃ v r, vs = v :: r ∧ evG G cs X t v l h fun l' h' => evGs G cs X ts r l' h' Q
end
def augV : BO → PV → PV → PH → KQ → Prop
  | .add, .int i, .int j, h, Q => Q (.int (i + j)) h
  | .add, .str i, .str j, h, Q => i.length + j.length ≤ SZ ∧ Q (.str (i ++ j)) h
  | .sub, .int i, .int j, h, Q => Q (.int (i - j)) h
  | _, _, _, _, _ => False
mutual
def evS (G : Sig) (cs : CS) : S → Loc → PH → En → Prop
  | .asg t e, l, h, D => evE G cs (fun x h' => D.ex x l h') e l h fun v h1 => evG G cs (fun x h' => D.ex x l h') t v l h1 D.nx
  | .aug i o e, l, h, D => ∃ x, l[i]? = some (some x) ∧ evE G cs (fun x h' => D.ex x l h') e l h fun y h1 => augV o x y h1 fun z h2 => D.nx (l.set i (some z)) h2
  | .augF ob f o e, l, h, D => evE G cs (fun x h' => D.ex x l h') ob l h fun x h1 => ∃ p c fs v cd, x = .ref p ∧ h1[p]? = some (.ins c fs) ∧ G.cls c = some cd ∧ cd.fields.contains f = true ∧ getN f fs = some v ∧
      evE G cs (fun x h' => D.ex x l h') e l h1 fun y h2 => augV o v y h2 fun z h3 => ∃ fs', h3[p]? = some (.ins c fs') ∧ fs'.length < 900 ∧ D.nx l (h3.set p (.ins c (putN f z fs')))
  | .augS ob ix o e, l, h, D => evE G cs (fun x h' => D.ex x l h') ob l h fun x h1 => evE G cs (fun x h' => D.ex x l h') ix l h1 fun y h2 => ∃ p k xs v, x = .ref p ∧ y = .int k ∧ h2[p]? = some (.lst xs) ∧ atI xs k = some v ∧
      evE G cs (fun x h' => D.ex x l h') e l h2 fun u h3 => augV o v u h3 fun z h4 => ∃ ys j, h4[p]? = some (.lst ys) ∧ ixN ys.length k = some j ∧ D.nx l (h4.set p (.lst (ys.set j z)))
  | .exp e, l, h, D => evE G cs (fun x h' => D.ex x l h') e l h fun _ h1 => D.nx l h1
  | .ret e, l, h, D => evE G cs (fun x h' => D.ex x l h') e l h D.rt
  | .retN, _, h, D => D.rt .non h
  | .ife c a b, l, h, D => evT G cs (fun x h' => D.ex x l h') c l h fun r h1 => if r = true then evB G cs a l h1 D else evB G cs b l h1 D
  | .for t it b, l, h, D => evI G cs (fun x h' => D.ex x l h') it l h fun items live h1 =>
      iterL live (fun v l' h' k => evG G cs (fun x h' => D.ex x l' h') t v l' h' fun l2 h2 => evB G cs b l2 h2 { D with nx := k, ct := k }) D.nx items l h1
  | .whl c b, l, h, D => ∃ n, whlN (fun l' h' k => evT G cs (fun x h' => D.ex x l' h') c l' h' fun r h1 => if r = true then evB G cs b l' h1 { D with nx := k, ct := k } else D.nx l' h1) n l h
  | .pas, l, h, D => D.nx l h
  | .cont, l, h, D => D.ct l h
  | .rais _ _, _, _, _ => False
  | .rai0, _, _, _ => False
def evB (G : Sig) (cs : CS) : B → Loc → PH → En → Prop
  | .nil, l, h, D => D.nx l h
  | .cons s b, l, h, D => evS G cs s l h { D with nx := fun l' h' => evB G cs b l' h' D }
end
def fill (dfl args : List PV) (n : Nat) : List PV := args ++ dfl.drop (dfl.length - (n - args.length))
def startL (d : FD) (vs : List PV) : Loc := vs.map some ++ List.replicate (d.ns - vs.length) none
/-- the calls, to a depth -/
def callS (G : Sig) : Nat → CS
  | 0, _, _, _, _, _ => False
  | k + 1, .fn f, args, h, Q, X => ∃ d, G.fn f = some d ∧ (fill d.dfl args d.np).length = d.np ∧ args.length ≤ d.np ∧
      evB G (callS G k) d.body (startL d (fill d.dfl args d.np)) h ⟨fun _ h' => Q .non h', Q, fun _ _ => False, fun x _ h' => X x h'⟩
  | k + 1, .mk c, args, h, Q, X => ∃ cd, G.cls c = some cd ∧ callS G k (.fn cd.init) (.ref h.length :: args) (h ++ [.ins c []]) (fun v h' => v = .non ∧ Q (.ref h.length) h') X

/-! ### monotonicity -/
def CSm (cs : CS) : Prop := ∀ f xs h (Q Q' : KQ) (X X' : KX), (∀ v h, Q v h → Q' v h) → (∀ v h, X v h → X' v h) → cs f xs h Q X → cs f xs h Q' X'
theorem binV_mono : ∀ {o : BO} {x y : PV} {h : PH} {Q Q' : KQ}, (∀ v h, Q v h → Q' v h) → binV o x y h Q → binV o x y h Q' := by
  intro o x y h Q Q' k q
  unfold binV at q ⊢
  split at q
  · exact k _ _ q
  · exact ⟨q.1, k _ _ q.2⟩
  · exact ⟨q.1, k _ _ q.2⟩
  · obtain ⟨xs, ys, a, b, c, q⟩ := q; exact ⟨xs, ys, a, b, c, k _ _ q⟩
  · exact k _ _ q
  · exact ⟨q.1, k _ _ q.2⟩
  · exact ⟨q.1, k _ _ q.2⟩
  · exact ⟨q.1, k _ _ q.2⟩
  · obtain ⟨xs, a, b, c, d, q⟩ := q; exact ⟨xs, a, b, c, d, k _ _ q⟩
  · exact ⟨q.1, q.2.1, k _ _ q.2.2⟩
  · exact ⟨q.1, k _ _ q.2⟩
  · exact ⟨q.1, k _ _ q.2⟩
  · exact q.elim
theorem augV_mono : ∀ {o : BO} {x y : PV} {h : PH} {Q Q' : KQ}, (∀ v h, Q v h → Q' v h) → augV o x y h Q → augV o x y h Q' := by
  intro o x y h Q Q' k q
  unfold augV at q ⊢
  split at q
  · exact k _ _ q
  · exact ⟨q.1, k _ _ q.2⟩
  · exact k _ _ q
  · exact q.elim
theorem cmpV_mono : ∀ {o : CO} {x y : PV} {h : PH} {Q Q' : Bool → PH → Prop}, (∀ v h, Q v h → Q' v h) → cmpV o x y h Q → cmpV o x y h Q' := by
  intro o x y h Q Q' k q
  unfold cmpV at q ⊢
  split at q
  all_goals first | exact k _ _ q | exact q.elim | (obtain ⟨d, e, a, b, c, c', q⟩ := q; exact ⟨d, e, a, b, c, c', k _ _ q⟩) | (obtain ⟨c, e, q⟩ := q; exact ⟨c, e, k _ _ q⟩) | (obtain ⟨xs, a, b, c, q⟩ := q; exact ⟨xs, a, b, c, k _ _ q⟩) | exact ⟨q.1, k _ _ q.2⟩
theorem idxV_mono : ∀ {x y : PV} {h : PH} {Q Q' : KQ}, (∀ v h, Q v h → Q' v h) → idxV x y h Q → idxV x y h Q' := by
  intro x y h Q Q' k q
  unfold idxV at q ⊢
  split at q
  · obtain ⟨v, a, q⟩ := q; exact ⟨v, a, k _ _ q⟩
  · obtain ⟨z, c, a, q⟩ := q; exact ⟨z, c, a, k _ _ q⟩
  · obtain ⟨xs, v, a, b, q⟩ := q; exact ⟨xs, v, a, b, k _ _ q⟩
  · obtain ⟨xs, v, a, b, q⟩ := q; exact ⟨xs, v, a, b, k _ _ q⟩
  · exact q.elim
theorem putV_mono : ∀ {x y v : PV} {h : PH} {Q Q' : PH → Prop}, (∀ h, Q h → Q' h) → putV x y v h Q → putV x y v h Q' := by
  intro x y v h Q Q' k q
  unfold putV at q ⊢
  split at q
  · split at q
    · obtain ⟨a, b, c, d, q⟩ := q; exact ⟨a, b, c, d, k _ q⟩
    · exact ⟨q.1, q.2.1, k _ q.2.2⟩
    · exact q.elim
  · exact q.elim
theorem slcV_mono : ∀ {x : PV} {u w : Option Int} {h : PH} {Q Q' : KQ}, (∀ v h, Q v h → Q' v h) → slcV x u w h Q → slcV x u w h Q' := by
  intro x u w h Q Q' k q
  unfold slcV at q ⊢
  split at q
  · exact k _ _ q
  · exact ⟨q.1, k _ _ q.2⟩
  · obtain ⟨xs, a, q⟩ := q; exact ⟨xs, a, k _ _ q⟩
  · exact q.elim
theorem bfV_mono : ∀ {f : BF} {xs : List PV} {h : PH} {Q Q' : KQ}, (∀ v h, Q v h → Q' v h) → bfV f xs h Q → bfV f xs h Q' := by
  intro f xs h Q Q' k q
  unfold bfV at q ⊢
  split at q
  all_goals first | exact k _ _ q | exact q.elim | exact ⟨q.1, k _ _ q.2⟩ | (obtain ⟨z, a, q⟩ := q; exact ⟨z, a, k _ _ q⟩) | (obtain ⟨d, a1, a2, a3, a4, a5, q⟩ := q; exact ⟨d, a1, a2, a3, a4, a5, k _ _ q⟩) | (obtain ⟨d, m, a1, a2, a3, q⟩ := q; exact ⟨d, m, a1, a2, a3, k _ _ q⟩)
theorem bmV_mono : ∀ {f : BM} {x : PV} {xs : List PV} {h : PH} {Q Q' : KQ}, (∀ v h, Q v h → Q' v h) → bmV f x xs h Q → bmV f x xs h Q' := by
  intro f x xs h Q Q' k q
  unfold bmV at q ⊢
  split at q
  all_goals first | exact q.elim | exact k _ _ q | exact ⟨q.1, k _ _ q.2⟩ | exact ⟨q.1, q.2.1, k _ _ q.2.2⟩ | (obtain ⟨z, a, q⟩ := q; exact ⟨z, a, k _ _ q⟩) | (obtain ⟨z, j, y, a1, a2, a3, a4, q⟩ := q; exact ⟨z, j, y, a1, a2, a3, a4, k _ _ q⟩) | (obtain ⟨z, a, b, q⟩ := q; exact ⟨z, a, b, k _ _ q⟩) | (obtain ⟨z, y, a, b, c, q⟩ := q; exact ⟨z, y, a, b, c, k _ _ q⟩) | (obtain ⟨z, y, a, b, q⟩ := q; exact ⟨z, y, a, b, k _ _ q⟩)
theorem iterL_mono {live : PH → Prop} {body body' : PV → Loc → PH → (Loc → PH → Prop) → Prop} {fin fin' : Loc → PH → Prop}
    (hb : ∀ x l h (Q Q' : Loc → PH → Prop), (∀ l h, Q l h → Q' l h) → body x l h Q → body' x l h Q') (hf : ∀ l h, fin l h → fin' l h) :
    ∀ (xs : List PV) (l : Loc) (h : PH), iterL live body fin xs l h → iterL live body' fin' xs l h
  | [], l, h, q => ⟨q.1, hf _ _ q.2⟩
  | x :: r, l, h, q => ⟨q.1, hb _ _ _ _ _ (fun l' h' q' => iterL_mono hb hf r l' h' q') q.2⟩
theorem compL_mono {live : PH → Prop} {d : Nat} {body body' : PV → PH → (Option PV → PH → Prop) → Prop} {fin fin' : PH → Prop}
    (hb : ∀ x h (Q Q' : Option PV → PH → Prop), (∀ l h, Q l h → Q' l h) → body x h Q → body' x h Q') (hf : ∀ h, fin h → fin' h) :
    ∀ (xs : List PV) (h : PH), compL live d body fin xs h → compL live d body' fin' xs h
  | [], h, q => ⟨q.1, hf _ q.2⟩
  | x :: r, h, q => ⟨q.1, hb _ _ _ _ (fun o h' q' => by
      cases o with
      | none => exact compL_mono hb hf r h' q'
      | some y =>
        obtain ⟨acc, a, b, q'⟩ := q'
        exact ⟨acc, a, b, compL_mono hb hf r _ q'⟩) q.2⟩
theorem whlN_mono {step step' : Loc → PH → (Loc → PH → Prop) → Prop} (hb : ∀ l h (Q Q' : Loc → PH → Prop), (∀ l h, Q l h → Q' l h) → step l h Q → step' l h Q') :
    ∀ (n : Nat) (l : Loc) (h : PH), whlN step n l h → whlN step' n l h
  | 0, _, _, q => q
  | n + 1, l, h, q => hb _ _ _ _ (fun l' h' q' => whlN_mono hb n l' h' q') q
section
variable {G : Sig} {cs cs' : CS}
/-- one call's reading below another -/
def CSle (cs cs' : CS) : Prop := ∀ f xs h (Q Q' : KQ) (X X' : KX), (∀ v h, Q v h → Q' v h) → (∀ v h, X v h → X' v h) → cs f xs h Q X → cs' f xs h Q' X'
mutual
theorem evE_mono (hc : CSle cs cs') {X X' : KX} (hX : ∀ v h, X v h → X' v h) : ∀ (e : E) (l : Loc) (h : PH) (Q Q' : KQ), (∀ v h, Q v h → Q' v h) → evE G cs X e l h Q → evE G cs' X' e l h Q'
  | .var i, l, h, Q, Q', k, q => by obtain ⟨v, a, q⟩ := q; exact ⟨v, a, k _ _ q⟩
  | .int i, _, h, Q, Q', k, q => k _ _ q
  | .str s, _, h, Q, Q', k, q => k _ _ q
  | .bl b, _, h, Q, Q', k, q => k _ _ q
  | .non, _, h, Q, Q', k, q => k _ _ q
  | .glob g, _, h, Q, Q', k, q => by obtain ⟨v, a, q⟩ := q; exact ⟨v, a, k _ _ q⟩
  | .bin o a b, l, h, Q, Q', k, q => evE_mono hc hX a _ _ _ _ (fun _ _ q => evE_mono hc hX b _ _ _ _ (fun _ _ q => binV_mono k q) q) q
  | .neg a, l, h, Q, Q', k, q => evE_mono hc hX a _ _ _ _ (fun _ _ q => by obtain ⟨i, e, q⟩ := q; exact ⟨i, e, k _ _ q⟩) q
  | .nt a, l, h, Q, Q', k, q => evE_mono hc hX a _ _ _ _ (fun _ _ q => by obtain ⟨i, e, q⟩ := q; exact ⟨i, e, k _ _ q⟩) q
  | .and a b, l, h, Q, Q', k, q => evE_mono hc hX a _ _ _ _ (fun _ _ q => by
      obtain ⟨i, e, q⟩ := q
      refine ⟨i, e, ?_⟩
      cases i with
      | true => exact evE_mono hc hX b _ _ _ _ k q
      | false => exact k _ _ q) q
  | .or a b, l, h, Q, Q', k, q => evE_mono hc hX a _ _ _ _ (fun _ _ q => by
      obtain ⟨i, e, q⟩ := q
      refine ⟨i, e, ?_⟩
      cases i with
      | false => exact evE_mono hc hX b _ _ _ _ k q
      | true => exact k _ _ q) q
  | .cmp o a b, l, h, Q, Q', k, q => evE_mono hc hX a _ _ _ _ (fun _ _ q => evE_mono hc hX b _ _ _ _ (fun _ _ q => cmpV_mono (fun _ _ q => k _ _ q) q) q) q
  | .chain o o' a b c, l, h, Q, Q', k, q => evE_mono hc hX a _ _ _ _ (fun _ _ q => evE_mono hc hX b _ _ _ _ (fun _ _ q => cmpV_mono (fun r _ q => by
      cases r with
      | true => exact evE_mono hc hX c _ _ _ _ (fun _ _ q => cmpV_mono (fun _ _ q => k _ _ q) q) q
      | false => exact k _ _ q) q) q) q
  | .ite c a b, l, h, Q, Q', k, q => evT_mono hc hX c _ _ _ _ (fun r _ q => by
      cases r with
      | true => exact evE_mono hc hX a _ _ _ _ k q
      | false => exact evE_mono hc hX b _ _ _ _ k q) q
  | .tup es, l, h, Q, Q', k, q => evEs_mono hc hX es _ _ _ _ (fun _ _ q => ⟨q.1, k _ _ q.2⟩) q
  | .lst es, l, h, Q, Q', k, q => evEs_mono hc hX es _ _ _ _ (fun _ _ q => ⟨q.1, k _ _ q.2⟩) q
  | .dic0, _, h, Q, Q', k, q => k _ _ q
  | .idx a b, l, h, Q, Q', k, q => evE_mono hc hX a _ _ _ _ (fun _ _ q => evE_mono hc hX b _ _ _ _ (fun _ _ q => idxV_mono k q) q) q
  | .slc a lo hi, l, h, Q, Q', k, q => evE_mono hc hX a _ _ _ _ (fun _ _ q => evO_mono hc hX lo _ _ _ _ (fun _ _ q => evO_mono hc hX hi _ _ _ _ (fun _ _ q => slcV_mono k q) q) q) q
  | .attr a f, l, h, Q, Q', k, q => evE_mono hc hX a _ _ _ _ (fun _ _ q => by obtain ⟨p, c, fs, v, cd, a, b, c', d, e, q⟩ := q; exact ⟨p, c, fs, v, cd, a, b, c', d, e, k _ _ q⟩) q
  | .call f args, l, h, Q, Q', k, q => evEs_mono hc hX args _ _ _ _ (fun _ _ q => hc _ _ _ _ _ _ _ k hX q) q
  | .mk c args, l, h, Q, Q', k, q => evEs_mono hc hX args _ _ _ _ (fun _ _ q => hc _ _ _ _ _ _ _ k hX q) q
  | .mkK c args e, l, h, Q, Q', k, q => evEs_mono hc hX args _ _ _ _ (fun _ _ q => evE_mono hc hX e _ _ _ _ (fun _ _ q => by
      obtain ⟨cd, d, a1, a2, a3, a4, a5, q⟩ := q
      exact ⟨cd, d, a1, a2, a3, a4, a5, hc _ _ _ _ _ _ _ k hX q⟩) q) q
  | .dicl ks vs, l, h, Q, Q', k, q => evEs_mono hc hX vs _ _ _ _ (fun _ _ q => ⟨q.1, q.2.1, q.2.2.1, k _ _ q.2.2.2⟩) q
  | .slr a, l, h, Q, Q', k, q => evE_mono hc hX a _ _ _ _ (fun _ _ q => by obtain ⟨p, xs, a, b, q⟩ := q; exact ⟨p, xs, a, b, k _ _ q⟩) q
  | .meth o m args, l, h, Q, Q', k, q => evE_mono hc hX o _ _ _ _ (fun _ _ q => by
      obtain ⟨p, c, fs, cd, f, a, b, c', d, q⟩ := q
      exact ⟨p, c, fs, cd, f, a, b, c', d, evEs_mono hc hX args _ _ _ _ (fun _ _ q => hc _ _ _ _ _ _ _ k hX q) q⟩) q
  | .ini c args, l, h, Q, Q', k, q => by
      obtain ⟨cd, a, q⟩ := q
      exact ⟨cd, a, evEs_mono hc hX args _ _ _ _ (fun _ _ q => hc _ _ _ _ _ _ _ k hX q) q⟩
  | .isi f a, l, h, Q, Q', k, q => evE_mono hc hX a _ _ _ _ (fun _ _ q => by obtain ⟨i, e, q⟩ := q; exact ⟨i, e, k _ _ q⟩) q
  | .bf f args, l, h, Q, Q', k, q => evEs_mono hc hX args _ _ _ _ (fun _ _ q => bfV_mono k q) q
  | .bm m o args, l, h, Q, Q', k, q => evE_mono hc hX o _ _ _ _ (fun _ _ q => ⟨q.1, evEs_mono hc hX args _ _ _ _ (fun _ _ q => bmV_mono k q) q.2⟩) q
  | .lc elt t it cond, l, h, Q, Q', k, q => evI_mono hc hX it _ _ _ _ (fun items live h1 q => compL_mono (fun x h2 R R' kR q => evG_mono hc (fun _ _ z => z) t _ _ _ _ _ (fun l' h3 q => evC_mono hc (fun _ _ z => z) cond _ _ _ _ (fun b h4 q => by
      cases b with
      | true => exact evE_mono hc (fun _ _ z => z) elt _ _ _ _ (fun y h5 q => kR _ _ q) q
      | false => exact kR _ _ q) q) q) (fun h2 q => k _ _ q) _ _ q) q
  | .dget o a b, l, h, Q, Q', k, q => evE_mono hc hX o _ _ _ _ (fun _ _ q => ⟨q.1, evE_mono hc hX a _ _ _ _ (fun _ _ q => evE_mono hc hX b _ _ _ _ (fun _ _ q => by obtain ⟨p, kvs, a1, a2, a3, q⟩ := q; exact ⟨p, kvs, a1, a2, a3, k _ _ q⟩) q) q.2⟩) q
theorem evEs_mono (hc : CSle cs cs') {X X' : KX} (hX : ∀ v h, X v h → X' v h) : ∀ (e : Es) (l : Loc) (h : PH) (Q Q' : List PV → PH → Prop), (∀ v h, Q v h → Q' v h) → evEs G cs X e l h Q → evEs G cs' X' e l h Q'
  | .nil, _, h, Q, Q', k, q => k _ _ q
  | .cons e es, l, h, Q, Q', k, q => evE_mono hc hX e _ _ _ _ (fun _ _ q => evEs_mono hc hX es _ _ _ _ (fun _ _ q => k _ _ q) q) q
theorem evO_mono (hc : CSle cs cs') {X X' : KX} (hX : ∀ v h, X v h → X' v h) : ∀ (e : OE) (l : Loc) (h : PH) (Q Q' : Option Int → PH → Prop), (∀ v h, Q v h → Q' v h) → evO G cs X e l h Q → evO G cs' X' e l h Q'
  | .no, _, h, Q, Q', k, q => k _ _ q
  | .so e, l, h, Q, Q', k, q => evE_mono hc hX e _ _ _ _ (fun _ _ q => by obtain ⟨i, e, q⟩ := q; exact ⟨i, e, k _ _ q⟩) q
theorem evC_mono (hc : CSle cs cs') {X X' : KX} (hX : ∀ v h, X v h → X' v h) : ∀ (e : OC) (l : Loc) (h : PH) (Q Q' : Bool → PH → Prop), (∀ v h, Q v h → Q' v h) → evC G cs X e l h Q → evC G cs' X' e l h Q'
  | .no, _, h, Q, Q', k, q => k _ _ q
  | .so e, l, h, Q, Q', k, q => evT_mono hc hX e _ _ _ _ k q
theorem evT_mono (hc : CSle cs cs') {X X' : KX} (hX : ∀ v h, X v h → X' v h) : ∀ (e : C) (l : Loc) (h : PH) (Q Q' : Bool → PH → Prop), (∀ v h, Q v h → Q' v h) → evT G cs X e l h Q → evT G cs' X' e l h Q'
  | .v e, l, h, Q, Q', k, q => evE_mono hc hX e _ _ _ _ (fun _ _ q => by obtain ⟨i, e, q⟩ := q; exact ⟨i, e, k _ _ q⟩) q
  | .cmp o a b, l, h, Q, Q', k, q => evE_mono hc hX a _ _ _ _ (fun _ _ q => evE_mono hc hX b _ _ _ _ (fun _ _ q => cmpV_mono k q) q) q
  | .chain o o' a b c, l, h, Q, Q', k, q => evE_mono hc hX a _ _ _ _ (fun _ _ q => evE_mono hc hX b _ _ _ _ (fun _ _ q => cmpV_mono (fun r _ q => by
      cases r with
      | true => exact evE_mono hc hX c _ _ _ _ (fun _ _ q => cmpV_mono k q) q
      | false => exact k _ _ q) q) q) q
  | .nt a, l, h, Q, Q', k, q => evT_mono hc hX a _ _ _ _ (fun _ _ q => k _ _ q) q
  | .and a b, l, h, Q, Q', k, q => evT_mono hc hX a _ _ _ _ (fun c _ q => by
      cases c with
      | true => exact evT_mono hc hX b _ _ _ _ k q
      | false => exact k _ _ q) q
  | .or a b, l, h, Q, Q', k, q => evT_mono hc hX a _ _ _ _ (fun c _ q => by
      cases c with
      | false => exact evT_mono hc hX b _ _ _ _ k q
      | true => exact k _ _ q) q
theorem evI_mono (hc : CSle cs cs') {X X' : KX} (hX : ∀ v h, X v h → X' v h) : ∀ (e : I) (l : Loc) (h : PH) (Q Q' : KI), (∀ a b c, Q a b c → Q' a b c) → evI G cs X e l h Q → evI G cs' X' e l h Q'
  | .seq e, l, h, Q, Q', k, q => evE_mono hc hX e _ _ _ _ (fun _ _ q => by obtain ⟨i, e, q⟩ := q; exact ⟨i, e, k _ _ _ q⟩) q
  | .rng1 e, l, h, Q, Q', k, q => evE_mono hc hX e _ _ _ _ (fun _ _ q => by obtain ⟨i, e, f, q⟩ := q; exact ⟨i, e, f, k _ _ _ q⟩) q
  | .rng2 a b, l, h, Q, Q', k, q => evE_mono hc hX a _ _ _ _ (fun _ _ q => evE_mono hc hX b _ _ _ _ (fun _ _ q => by obtain ⟨i, j, e, f, g, q⟩ := q; exact ⟨i, j, e, f, g, k _ _ _ q⟩) q) q
  | .enu e, l, h, Q, Q', k, q => evE_mono hc hX e _ _ _ _ (fun _ _ q => by obtain ⟨i, e, q⟩ := q; exact ⟨i, e, k _ _ _ q⟩) q
  | .zip2 a b, l, h, Q, Q', k, q => evE_mono hc hX a _ _ _ _ (fun _ _ q => evE_mono hc hX b _ _ _ _ (fun _ _ q => by obtain ⟨i, j, e, f, q⟩ := q; exact ⟨i, j, e, f, k _ _ _ q⟩) q) q
  | .rev e, l, h, Q, Q', k, q => evE_mono hc hX e _ _ _ _ (fun _ _ q => by obtain ⟨i, e, q⟩ := q; exact ⟨i, e, k _ _ _ q⟩) q
theorem evG_mono (hc : CSle cs cs') {X X' : KX} (hX : ∀ v h, X v h → X' v h) : ∀ (t : T) (v : PV) (l : Loc) (h : PH) (Q Q' : Loc → PH → Prop), (∀ a b, Q a b → Q' a b) → evG G cs X t v l h Q → evG G cs' X' t v l h Q'
  | .nm i, v, l, h, Q, Q', k, q => ⟨q.1, k _ _ q.2⟩
  | .tup ts, v, l, h, Q, Q', k, q => by obtain ⟨xs, e, e2, q⟩ := q; exact ⟨xs, e, e2, evGs_mono hc hX ts _ _ _ _ _ k q⟩
  | .attr o f, v, l, h, Q, Q', k, q => evE_mono hc hX o _ _ _ _ (fun _ _ q => by obtain ⟨p, c, fs, cd, a, b, c', d, d', q⟩ := q; exact ⟨p, c, fs, cd, a, b, c', d, d', k _ _ q⟩) q
  | .sub o i, v, l, h, Q, Q', k, q => evE_mono hc hX o _ _ _ _ (fun _ _ q => evE_mono hc hX i _ _ _ _ (fun _ _ q => putV_mono (fun _ q => k _ _ q) q) q) q
theorem evGs_mono (hc : CSle cs cs') {X X' : KX} (hX : ∀ v h, X v h → X' v h) : ∀ (t : Ts) (v : List PV) (l : Loc) (h : PH) (Q Q' : Loc → PH → Prop), (∀ a b, Q a b → Q' a b) → evGs G cs X t v l h Q → evGs G cs' X' t v l h Q'
  | .nil, v, l, h, Q, Q', k, q => ⟨q.1, k _ _ q.2⟩
  | .cons t ts, v, l, h, Q, Q', k, q => by
      obtain ⟨y, r, e, q⟩ := q
      exact ⟨y, r, e, evG_mono hc hX t _ _ _ _ _ (fun _ _ q => evGs_mono hc hX ts _ _ _ _ _ k q) q⟩
end
/-- an end below another -/
structure Enle (D D' : En) : Prop where
  nx : ∀ l h, D.nx l h → D'.nx l h
  rt : ∀ l h, D.rt l h → D'.rt l h
  ct : ∀ l h, D.ct l h → D'.ct l h
  ex : ∀ x l h, D.ex x l h → D'.ex x l h
mutual
theorem evS_mono (hc : CSle cs cs') : ∀ (s : S) (l : Loc) (h : PH) (D D' : En), Enle D D' → evS G cs s l h D → evS G cs' s l h D'
  | .asg t e, l, h, D, D', k, q => evE_mono hc (fun _ _ z => k.ex _ _ _ z) e _ _ _ _ (fun _ _ q => evG_mono hc (fun _ _ z => k.ex _ _ _ z) t _ _ _ _ _ k.nx q) q
  | .aug i o e, l, h, D, D', k, q => by
      obtain ⟨x, a, q⟩ := q
      exact ⟨x, a, evE_mono hc (fun _ _ z => k.ex _ _ _ z) e _ _ _ _ (fun _ _ q => augV_mono (fun _ _ q => k.nx _ _ q) q) q⟩
  | .augF ob f o e, l, h, D, D', k, q => evE_mono hc (fun _ _ z => k.ex _ _ _ z) ob _ _ _ _ (fun _ _ q => by
      obtain ⟨p, c, fs, v, cd, a1, a2, a3, a4, a5, q⟩ := q
      exact ⟨p, c, fs, v, cd, a1, a2, a3, a4, a5, evE_mono hc (fun _ _ z => k.ex _ _ _ z) e _ _ _ _ (fun _ _ q => augV_mono (fun _ _ q => by obtain ⟨fs', b1, b2, q⟩ := q; exact ⟨fs', b1, b2, k.nx _ _ q⟩) q) q⟩) q
  | .augS ob ix o e, l, h, D, D', k, q => evE_mono hc (fun _ _ z => k.ex _ _ _ z) ob _ _ _ _ (fun _ _ q => evE_mono hc (fun _ _ z => k.ex _ _ _ z) ix _ _ _ _ (fun _ _ q => by
      obtain ⟨p, c, fs, v, a1, a2, a3, a4, q⟩ := q
      exact ⟨p, c, fs, v, a1, a2, a3, a4, evE_mono hc (fun _ _ z => k.ex _ _ _ z) e _ _ _ _ (fun _ _ q => augV_mono (fun _ _ q => by obtain ⟨ys, j, b1, b2, q⟩ := q; exact ⟨ys, j, b1, b2, k.nx _ _ q⟩) q) q⟩) q) q
  | .exp e, l, h, D, D', k, q => evE_mono hc (fun _ _ z => k.ex _ _ _ z) e _ _ _ _ (fun _ _ q => k.nx _ _ q) q
  | .ret e, l, h, D, D', k, q => evE_mono hc (fun _ _ z => k.ex _ _ _ z) e _ _ _ _ k.rt q
  | .retN, l, h, D, D', k, q => k.rt _ _ q
  | .ife c a b, l, h, D, D', k, q => evT_mono hc (fun _ _ z => k.ex _ _ _ z) c _ _ _ _ (fun r _ q => by
      cases r with
      | true => exact evB_mono hc a _ _ _ _ k q
      | false => exact evB_mono hc b _ _ _ _ k q) q
  | .for t it b, l, h, D, D', k, q => evI_mono hc (fun _ _ z => k.ex _ _ _ z) it _ _ _ _ (fun items live h1 q => iterL_mono (fun x l' h' R R' kR q =>
      evG_mono hc (fun _ _ z => k.ex _ _ _ z) t _ _ _ _ _ (fun l2 h2 q => evB_mono hc b _ _ { D with nx := R, ct := R } { D' with nx := R', ct := R' } ⟨kR, k.rt, kR, k.ex⟩ q) q) k.nx _ _ _ q) q
  | .whl c b, l, h, D, D', k, q => by
      obtain ⟨n, q⟩ := q
      exact ⟨n, whlN_mono (fun l' h' R R' kR q => evT_mono hc (fun _ _ z => k.ex _ _ _ z) c _ _ _ _ (fun r _ q => by
        cases r with
        | true => exact evB_mono hc b _ _ { D with nx := R, ct := R } { D' with nx := R', ct := R' } ⟨kR, k.rt, kR, k.ex⟩ q
        | false => exact k.nx _ _ q) q) n _ _ q⟩
  | .pas, l, h, D, D', k, q => k.nx _ _ q
  | .cont, l, h, D, D', k, q => k.ct _ _ q
  | .rais c a, l, h, D, D', k, q => q
  | .rai0, l, h, D, D', k, q => q
theorem evB_mono (hc : CSle cs cs') : ∀ (b : B) (l : Loc) (h : PH) (D D' : En), Enle D D' → evB G cs b l h D → evB G cs' b l h D'
  | .nil, l, h, D, D', k, q => k.nx _ _ q
  | .cons s b, l, h, D, D', k, q => evS_mono hc s _ _ { D with nx := fun l' h' => evB G cs b l' h' D } { D' with nx := fun l' h' => evB G cs' b l' h' D' } ⟨fun _ _ q => evB_mono hc b _ _ _ _ k q, k.rt, k.ct, k.ex⟩ q
end
theorem callS_le : ∀ (j k : Nat), j ≤ k → CSle (callS G j) (callS G k)
  | 0, _, _ => fun f xs h Q Q' X X' hQ hX q => q.elim
  | j + 1, 0, hj => absurd hj (Nat.not_succ_le_zero j)
  | j + 1, k + 1, hj => fun f xs h Q Q' X X' hQ hX q => by
      have ih := callS_le j k (Nat.le_of_succ_le_succ hj)
      cases f with
      | fn f =>
        obtain ⟨d, a, b, c, q⟩ := q
        exact ⟨d, a, b, c, evB_mono ih d.body _ _ ⟨fun _ h' => Q .non h', Q, fun _ _ => False, fun x _ h' => X x h'⟩ ⟨fun _ h' => Q' .non h', Q', fun _ _ => False, fun x _ h' => X' x h'⟩ ⟨fun _ _ q => hQ _ _ q, hQ, fun _ _ q => q, fun _ _ _ q => hX _ _ q⟩ q⟩
      | mk c =>
        obtain ⟨cd, a, q⟩ := q
        exact ⟨cd, a, ih _ _ _ _ _ _ _ (fun _ _ q => ⟨q.1, hQ _ _ q.2⟩) hX q⟩
theorem callS_mono {k : Nat} {f : FR} {xs : List PV} {h : PH} {Q Q' : KQ} {X X' : KX} (hQ : ∀ v h, Q v h → Q' v h) (hX : ∀ v h, X v h → X' v h) (q : callS G k f xs h Q X) : callS G k f xs h Q' X' :=
  callS_le k k (Nat.le_refl k) _ _ _ _ _ _ _ hQ hX q
end
end Py

set_option Elab.async false
set_option linter.all false
set_option maxRecDepth 100000
set_option maxHeartbeats 4000000
/-! PyGuard: defs, calls and the law's call where no guard is under way. -/
namespace Py
open PySem PySem.Spec PyProof.Rows L2
/-- a def's promise, wherever nothing is being shown -/
structure FnG (P : Program) (w : World) (K : PySem.W.Frag) (mg : Str → Option Value) (base : Heap) (C : CXT) (k : Nat) (f : Addr) (fd : FuncData) (ps : List Str) (sp : Sp) : Prop where
  many : ∀ {vs H Q E}, sp vs H Q E → vs.length = ps.length
  does : ∀ {A : Around} {outer : List Env} {s : Shared} {H : Hp} {args : Args} {us : List Value} {vs : List V} {Q : VK} {E : XK}, A.guards = some [] → Room k A → Env0 P w K mg base A outer s H →
    BindsTo s fd args (ps.zip us) → Vals vs us → sp vs H Q E → codeAny (model P w) A (.call (.ref f) args) (CR C outer P w H s Q E) s
section
variable {P : Program} {w : World} {K : PySem.W.Frag} {mg : Str → Option Value} {base : Heap} {C : CXT} {k : Nat} {f : Addr} {fd : FuncData} {sp : Sp}
theorem fnG_of {x qual : Str} {params : Arguments} {body : List Stmt} {scope : Scope} {dvs : List V} {kws : List (Str × V)} {N ps : List Str} (F : FunD K x qual params body scope dvs kws f fd) (S : FnScope N ps scope) (many : ∀ {vs H Q E}, sp vs H Q E → vs.length = ps.length)
    (B : ∀ (cdv : Value) (A : Around) (outer : List Env) (s : Shared) (H : Hp) (vs : List V) (Q : VK) (E : XK), A.guards = some [] → Room k (A.deeper (envOfC qual scope s.heap.objs.size f cdv)) → sp vs H Q E →
      ∃ t, PSs (cxOf C P w K mg base N qual scope f cdv A outer s H E) body t ∧ t { nx := fun _ H' => Q .non H', rt := Q } (L2.start N vs) H) : FnG P w K mg base C (k + 1) f fd ps sp := by
  obtain ⟨_, _, _, _, _, _, _, cdv, _, _, rfl, at_, code, _, _⟩ := F.ex
  refine ⟨many, fun {A outer s H args us vs Q E} hg room e0 bound vals h => ?_⟩
  have old : ∀ b o, base.get? b = some o → s.heap.get? b = some o := fun b o e => (e0.bs b o e).1
  have inn := e0.mod.kin.keeps old
  have deep := e0.mod.nolimit.keeps old
  have kinds : ∀ p ∈ ps.zip us, scope.names.lookup p.1 = some .local ∨ (scope.names.lookup p.1 = some .cell ∧ ((cellsFrom (s.heap.objs.size + 1) scope.names []).lookup p.1).isSome = true) := by
    rintro ⟨n, v⟩ hp
    exact (S.par n (List.of_mem_zip hp).1).imp id fun q => ⟨q, PySem.W.cellsFrom_some _ _ _ (.inl q)⟩
  refine codeAny_call_function room.depth (inn _ _ at_) rfl S.co S.gen rfl (PySem.W.codeRec_of inn code) (bound _ _ _ _ (wpAny_newFunctionEnv_cells S.kind kinds ?_))
  intro env he s1 x
  subst he
  refine ⟨deep.keeps x.toInCall.keep, codeAny_func ?_⟩
  obtain ⟨t, ht, q⟩ := B cdv A outer s H vs Q E hg (room.deeper _) h
  refine wpAny_mono (ht.run [] s1 _ H _ (inv_start S room.hd e0 (many h) vals x) q) ?_ fun _ _ z => z
  rintro (_ | _ | _ | u) s' z
  · obtain ⟨_, H', J, q⟩ := z
    exact ⟨.non, H', J.os, J.bare, J.base, J.hok, rfl, q⟩
  · obtain ⟨_, _, _, q⟩ := z
    exact q.elim
  · obtain ⟨_, _, _, q⟩ := z
    exact q.elim
  · obtain ⟨v, _, H', J, r, q⟩ := z
    exact ⟨v, H', J.os, J.bare, J.base, J.hok, r, q⟩
end
section
variable {X : Cx} {C : CXT} {k : Nat} {f : Addr} {fd : FuncData} {ps : List Str} {sp : Sp} {dvs : List V} {ds : List Value} {E : L2.St → XK} {pins : List (Addr × Obj)} {σ : L2.St} {H : Hp} {s : Shared} {Q : VK} {us : List Value} {vs : List V}
theorem run_fnG (F : FnG X.prog X.w X.K X.mg X.base C k f fd ps sp) (hg : X.A.guards = some []) (room : Room k X.A) (hb : Binds X.K fd ps ds) (hd : Vals dvs ds) (air : PassesAt C X σ (E σ)) (I : Inv X pins σ H s) (r : Vals vs us) (h : sp (vs ++ dvs) H Q (E σ)) :
    wpAny (model X.prog X.w) X.A (call (.ref f) us) (EP X pins σ Q) X.xe s := by
  have both := r.append hd
  have go := F.does (outer := X.stack) (args := ⟨us, []⟩) hg room I.env0 (hb s us I.kIn (both.length.symm.trans (F.many h))) both h
  refine wpAny_call (codeAny_mono go ?_)
  rintro (e | fl) s' z
  · exact air pins H s e s' I z
  · cases fl <;> first | exact I.after z | exact z.elim
/-- an instance made -/
theorem run_makeG {Ca : Addr} {E : XK} (M : Mk X.K Ca f) (F : FnG X.prog X.w X.K X.mg X.base C k f fd ps sp) (hg : X.A.guards = some []) (room : Room (k + 1) X.A) (hb : Binds X.K fd ps ds) (hd : Vals dvs ds) (air : PassesAt C X σ E) (I : Inv X pins σ H s) (r : Vals vs us)
    (h : ∀ x dx, H x = none → H dx = none → dx ≠ x → sp (.ref x :: (vs ++ dvs)) (upd (upd H dx (.own x)) x (.ins Ca dx [])) (fun v H2 => v = .non ∧ Q (.ref x) H2) E) : wpAny (model X.prog X.w) X.A (call (.ref Ca) us) (EP X pins σ Q) X.xe s := by
  have q := h (s.heap.objs.size + 1) s.heap.objs.size (I.hok.fresh (Nat.le_succ _)) (I.hok.fresh (Nat.le_refl _)) (Nat.ne_of_lt (Nat.lt_succ_self _))
  have J := Inv.made (C := Ca) I
  have both : Vals (V.ref (s.heap.objs.size + 1) :: (vs ++ dvs)) (Value.ref (s.heap.objs.size + 1) :: (us ++ ds)) := .cons rfl (r.append hd)
  have gs : (X.A.under (.builtin "type.__call__" ⟨.ref Ca :: us, []⟩)).guards = some [] := by
    show pushGuards (Code.guards (.builtin "type.__call__" ⟨.ref Ca :: us, []⟩)) X.A.guards = some []
    rw [hg]; rfl
  have go := F.does (outer := X.stack) (args := ⟨Value.ref (s.heap.objs.size + 1) :: us, []⟩) gs (room.make Ca us []) (J.env0.make Ca us []) (hb _ (Value.ref (s.heap.objs.size + 1) :: us) J.kIn (both.length.symm.trans (F.many q))) both q
  refine wpAny_call (make_map (f := f) I.kIn M.makes M.init (beq_iff_eq.mp M.fn) (codeAny_mono go ?_))
  rintro (e | fl) s' z
  · exact air pins _ _ e s' J z
  · cases fl with
    | ret u =>
      obtain ⟨v, H', I3, rv, ev, q3⟩ := J.after z
      subst ev
      exact ⟨rv, V.ref (s.heap.objs.size + 1), H', I3, rfl, q3⟩
    | _ => exact z.elim
theorem run_makeNG {Ca : Addr} {E : XK} {n : Nat} {ks : List Str} {g : List Value → List Value → List Value} {gV : List V → List V → List V} {ws : List Value} {zs : List V} (M : Mk X.K Ca f) (F : FnG X.prog X.w X.K X.mg X.base C k f fd ps sp) (hg : X.A.guards = some []) (room : Room (k + 1) X.A) (hb : KBn X.K fd ps (n + 1) ks g gV) (air : PassesAt C X σ E) (I : Inv X pins σ H s) (r : Vals vs us) (rz : Vals zs ws) (l1 : vs.length = n) (l2 : zs.length = ks.length)
    (h : ∀ x dx, H x = none → H dx = none → dx ≠ x → sp (gV (.ref x :: vs) zs) (upd (upd H dx (.own x)) x (.ins Ca dx [])) (fun v H2 => v = .non ∧ Q (.ref x) H2) E) : wpAny (model X.prog X.w) X.A (call (.ref Ca) us (ks.zip ws)) (EP X pins σ Q) X.xe s := by
  have q := h (s.heap.objs.size + 1) s.heap.objs.size (I.hok.fresh (Nat.le_succ _)) (I.hok.fresh (Nat.le_refl _)) (Nat.ne_of_lt (Nat.lt_succ_self _))
  have J := Inv.made (C := Ca) I
  have r1 : Vals (V.ref (s.heap.objs.size + 1) :: vs) (Value.ref (s.heap.objs.size + 1) :: us) := .cons rfl r
  have both := hb.rel r1 rz
  have e1 : (Value.ref (s.heap.objs.size + 1) :: us).length = n + 1 := r1.length.symm.trans (congrArg Nat.succ l1)
  have e2 : ws.length = ks.length := rz.length.symm.trans l2
  have gs : (X.A.under (.builtin "type.__call__" ⟨.ref Ca :: us, ks.zip ws⟩)).guards = some [] := by
    show pushGuards (Code.guards (.builtin "type.__call__" ⟨.ref Ca :: us, ks.zip ws⟩)) X.A.guards = some []
    rw [hg]; rfl
  have go := F.does (outer := X.stack) (args := ⟨Value.ref (s.heap.objs.size + 1) :: us, ks.zip ws⟩) gs (room.make Ca us (ks.zip ws)) (J.env0.make Ca us (ks.zip ws)) (hb.to _ (Value.ref (s.heap.objs.size + 1) :: us) ws J.kIn e1 e2) both q
  refine wpAny_call (make_map (f := f) I.kIn M.makes M.init (beq_iff_eq.mp M.fn) (codeAny_mono go ?_))
  rintro (e | fl) s' z
  · exact air pins _ _ e s' J z
  · cases fl with
    | ret u =>
      obtain ⟨v, H', I3, rv, ev, q3⟩ := J.after z
      subst ev
      exact ⟨rv, V.ref (s.heap.objs.size + 1), H', I3, rfl, q3⟩
    | _ => exact z.elim
end
/-- the law's call -/
theorem law_callG {P : Program} {w : World} {K : PySem.W.Frag} {mg mb : Str → Option Value} {C : CXT} {k : Nat} {fa a : Addr} {fd : FuncData} {x : Str} {sp : Sp} {s₁ : Shared} {vs : List Value} {ns : List Int}
    (KX : K.In s₁.heap) (hns : s₁.heap.Ns mainGlobals mg) (hb : s₁.heap.Ns builtinsNs mb) (hbb : ∀ x : Str, x ≠ "__name__" → mb x = bootBuiltins x) (hlim : s₁.heap.NoLimit) (hg : s₁.gens = #[])
    (ha : s₁.heap.get? a = some { cls := .type "list", data := .seq vs.toArray }) (hi : IntsAre vs ns) (hl : ns.length ≤ sizeLine) (room : Room k callerA)
    (F : ∀ base : Heap, K.In base → base.Ns mainGlobals mg → FnG P w K mg base C k fa fd [x] sp) (hbind : ∀ (s : Shared) (u : Value), BindsTo s fd ⟨[u], []⟩ [(x, u)])
    (hsp : ∀ H : Hp, Only H → SqL K H a (ns.map V.int) → sp [.ref a] H (fun v _ => v = .bl true) fun _ _ _ => False) (none_ : ∀ H e s', C [] H s₁ (fun _ _ _ => False) e s' → False) :
    codeAny (model P w) callerA (.call (.ref fa) ⟨[.ref a], []⟩) (fun r s' => r = .ok (.ret (.bool true)) ∧ OldK s₁.heap s'.heap ∧ s'.os = s₁.os ∧ AllBare s'.gens) s₁ := by
  have rv := vals_ints hi
  have hsz : (ns.map V.int).length ≤ sizeLine := by rw [List.length_map]; exact hl
  have hvs : vs.length = ns.length := hi.length
  obtain ⟨H, hH⟩ : ∃ H : Hp, H = fun b => if b = a ∧ K.lookup a = none then some (.frz { cls := .type "list", data := .seq vs.toArray } (.lst (ns.map V.int))) else none := ⟨_, rfl⟩
  have at_ : ∀ {b u}, H b = some u → (b = a ∧ K.lookup a = none) ∧ u = .frz { cls := .type "list", data := .seq vs.toArray } (.lst (ns.map V.int)) := fun {b u} z => by
    rw [hH] at z
    dsimp only at z
    split at z
    · rename_i h; cases z; exact ⟨h, rfl⟩
    · cases z
  have free : ∀ {b o}, s₁.heap.get? b = some o → (∀ n, o.data ≠ .seq vs.toArray n) → H b = none := fun {b o} e n => by
    cases q : H b with
    | none => rfl
    | some u =>
      obtain ⟨⟨rfl, _⟩, _⟩ := at_ q
      rw [ha] at e; cases e
      exact absurd rfl (n _)
  have only : Only H := fun b => by
    cases q : H b with
    | none => exact .inl rfl
    | some u => exact .inr ⟨_, _, congrArg some (at_ q).2⟩
  have list : SqL K H a (ns.map V.int) := by
    cases q : K.lookup a with
    | none => exact .inl (.inr ⟨_, by rw [hH]; exact if_pos ⟨rfl, q⟩⟩)
    | some o =>
      have e := KX a o q
      rw [ha] at e; cases e
      exact .inr ⟨_, vs.toArray, _, q, rfl, rfl, rfl, by rw [List.size_toArray, hvs]; exact hl, by simpa using rv⟩
  have okH : HOk P w H s₁.heap := fun b u z => by
    obtain ⟨⟨rfl, _⟩, rfl⟩ := at_ z
    exact ⟨ha, hsz, vs, _, rv, ha⟩
  have kept : ∀ {b m}, s₁.heap.Ns b m → (hidT s₁.heap H).Ns b m := fun {b m} ⟨o, es, ep, e, d, r⟩ => ⟨o, es, ep, hidT_get e (free e fun n z => by rw [d] at z; cases z), d, r⟩
  have inn : K.In (hidT s₁.heap H) := fun b o e => hidT_get (KX b o e) (by
    cases q : H b with
    | none => rfl
    | some u => obtain ⟨⟨rfl, n⟩, _⟩ := at_ q; rw [n] at e; cases e)
  have md : Mod K mg (hidT s₁.heap H) := ⟨inn, kept hns, ⟨mb, kept hb, hbb⟩, let ⟨mc, h1, h2⟩ := hlim; ⟨mc, kept h1, h2⟩⟩
  have e0 : Env0 P w K mg (hidT s₁.heap H) callerA [] s₁ H := ⟨rfl, md, fun b o e => of_hidT e, Nat.le_of_eq (hidT_size _ _), trivial, (fun b z => nomatch (show b ∈ ([] : List Addr) from z)), okH, .of_eq hg⟩
  refine codeAny_mono ((F _ inn (kept hns)).does (us := [.ref a]) (vs := [.ref a]) rfl room e0 (hbind s₁ (.ref a)) (.cons rfl .nil) (hsp H only list)) ?_
  rintro (e | fl) s' z
  · exact (none_ H e s' z).elim
  · cases fl with
    | ret u =>
      obtain ⟨v, H', os, bare, un, okH', r, q⟩ := z
      cases (show v = .bl true from q)
      cases (show u = Value.bool true from r)
      refine ⟨rfl, OldK.of_keep fun b o e => ?_, os, bare⟩
      cases q : H b with
      | none => exact un.keep b o e q (fun z => nomatch (show b ∈ ([] : List Addr) from z)) (fun z => nomatch (show b ∈ ([] : List Addr) from z))
      | some u =>
        obtain ⟨_, rfl⟩ := at_ q
        obtain ⟨e1, _⟩ := okH b _ q
        obtain ⟨e2, _⟩ := okH' b _ (un.frzs b _ _ q)
        rw [e] at e1; cases e1
        exact e2
    | _ => exact z.elim
end Py

set_option Elab.async false
set_option linter.all false
set_option maxRecDepth 100000
set_option maxHeartbeats 4000000
/-! PySound: the reading of PyDen is sound for the hand layer. -/
namespace Py
open PySem PySem.Spec PyProof.Rows L2

/-! ### how abstract values and heaps stand for the layer's -/
mutual
def RV (K : PySem.W.Frag) (H : Hp) (m : List Addr) : PV → V → Prop
  | .non, v => v = .non
  | .bl b, v => v = .bl b
  | .int i, v => v = .int i
  | .str s, v => v = .str s
  | .ref a, v => ∃ p, m[a]? = some p ∧ v = .ref p
  | .tup xs, v => ∃ p vs, v = .ref p ∧ SqT K H p vs ∧ RVs K H m xs vs
def RVs (K : PySem.W.Frag) (H : Hp) (m : List Addr) : List PV → List V → Prop
  | [], vs => vs = []
  | x :: xs, vs => ∃ v r, vs = v :: r ∧ RV K H m x v ∧ RVs K H m xs r
end
/-- a key -/
def keyV : PV → Option Key
  | .int i => some (.inl i)
  | .str s => some (.inr s)
  | _ => none
def RKs (K : PySem.W.Frag) (H : Hp) (m : List Addr) : List (PV × PV) → List (Key × V) → Prop
  | [], vs => vs = []
  | (x, y) :: xs, vs => ∃ k v r, vs = (k, v) :: r ∧ keyV x = some k ∧ RV K H m y v ∧ RKs K H m xs r
def optR (K : PySem.W.Frag) (H : Hp) (m : List Addr) : Option PV → Option V → Prop
  | some x, some v => RV K H m x v
  | none, none => True
  | _, _ => False
/-- a list of the written part -/
def KL (K : PySem.W.Frag) (a : Addr) (xs : List V) : Prop := ∃ (o : Obj) (its : Array Value) (n : Nat), K.lookup a = some o ∧ o.cls = .type "list" ∧ o.dict = none ∧ o.data = .seq its n ∧ its.size ≤ sizeLine ∧ Vals xs its.toList
/-- what is known of the module: names, class addresses -/
structure Me where
  nm : Nat → Str
  gf : Nat → Bool
  G : Sig
structure Mo extends Me where
  K : PySem.W.Frag
  ca : Nat → Addr
  fa : Nat → Addr
def RO (M : Mo) (H : Hp) (m : List Addr) : PO → Addr → Prop
  | .lst xs, p => ∃ vs, H p = some (.lst vs) ∧ RVs M.K H m xs vs
  | .frl xs, p => ∃ vs, ((∃ o, H p = some (.frz o (.lst vs))) ∨ KL M.K p vs) ∧ RVs M.K H m xs vs
  | .dic kvs, p => ∃ ks, H p = some (.dK ks) ∧ RKs M.K H m kvs ks
  | .ins c fs, p => ∃ dx gs cd, H p = some (.ins (M.ca c) dx gs) ∧ M.G.cls c = some cd ∧ (∀ f, cd.fields.contains f = true → optR M.K H m (getN f fs) (gs.lookup (M.nm f))) ∧
      gs.length = fs.length ∧ ∀ s ∈ gs.map (·.1), s ∈ cd.fields.map M.nm
def isFrl : PO → Bool
  | .frl _ => true
  | _ => false
structure RH (M : Mo) (H : Hp) (m : List Addr) (h : PH) : Prop where
  len : m.length = h.length
  obj : ∀ (a : Nat) (o : PO) (p : Addr), h[a]? = some o → m[a]? = some p → RO M H m o p
  inj : ∀ (a b : Nat) (p : Addr) (o u : PO), m[a]? = some p → m[b]? = some p → h[a]? = some o → h[b]? = some u → isFrl o = false → isFrl u = false → a = b
def RL (K : PySem.W.Frag) (H : Hp) (m : List Addr) (l : Loc) (σ : L2.St) : Prop := l.length = σ.length ∧ ∀ (i : Nat) (v : PV), l[i]? = some (some v) → ∃ w, σ[i]? = some (some w) ∧ RV K H m v w
/-- tuples stay -/
def Kp (K : PySem.W.Frag) (H H' : Hp) : Prop := ∀ p vs, SqT K H p vs → SqT K H' p vs
def Ex (m m' : List Addr) : Prop := ∀ (a : Nat) (p : Addr), m[a]? = some p → m'[a]? = some p
theorem Kp.refl (K : PySem.W.Frag) (H : Hp) : Kp K H H := fun _ _ h => h
theorem Kp.trans {K : PySem.W.Frag} {H H1 H2 : Hp} (a : Kp K H H1) (b : Kp K H1 H2) : Kp K H H2 := fun _ _ h => b _ _ (a _ _ h)
theorem Ex.refl (m : List Addr) : Ex m m := fun _ _ h => h
theorem Ex.trans {m m1 m2 : List Addr} (a : Ex m m1) (b : Ex m1 m2) : Ex m m2 := fun _ _ h => b _ _ (a _ _ h)
theorem Ex.app (m : List Addr) (p : Addr) : Ex m (m ++ [p]) := fun a q h => by
  rw [List.getElem?_append_left (List.getElem?_eq_some_iff.mp h).1]
  exact h
theorem Kp.upd_new {K : PySem.W.Frag} {H : Hp} {p : Addr} {o : HO} (h : H p = none) : Kp K H (upd H p o) := fun q vs s => by
  rcases s with (s | ⟨ob, s⟩) | s
  · exact .inl (.inl (by rw [upd_ne (ne_of_none s h)]; exact s))
  · exact .inl (.inr ⟨ob, by rw [upd_ne (ne_of_none s h)]; exact s⟩)
  · exact .inr s
def notTup : HO → Bool
  | .tup _ => false
  | .frz _ _ => false
  | _ => true
theorem Kp.upd_old {K : PySem.W.Frag} {H : Hp} {p : Addr} {o u : HO} (h : H p = some u) (n : notTup u = true) : Kp K H (upd H p o) := fun q vs s => by
  have ne : ∀ z, H q = some z → notTup z = false → q ≠ p := fun z e nz e2 => by
    subst e2; rw [h] at e; cases e; rw [n] at nz; cases nz
  rcases s with (s | ⟨ob, s⟩) | s
  · exact .inl (.inl (by rw [upd_ne (ne _ s rfl)]; exact s))
  · exact .inl (.inr ⟨ob, by rw [upd_ne (ne _ s rfl)]; exact s⟩)
  · exact .inr s
mutual
theorem RV.mono {K : PySem.W.Frag} {H H' : Hp} {m m' : List Addr} (k : Kp K H H') (e : Ex m m') : ∀ (x : PV) (v : V), RV K H m x v → RV K H' m' x v
  | .non, v, h => h
  | .bl b, v, h => h
  | .int i, v, h => h
  | .str s, v, h => h
  | .ref a, v, h => by obtain ⟨p, a, b⟩ := h; exact ⟨p, e _ _ a, b⟩
  | .tup xs, v, h => by obtain ⟨p, vs, a, b, c⟩ := h; exact ⟨p, vs, a, k _ _ b, RVs.mono k e xs vs c⟩
theorem RVs.mono {K : PySem.W.Frag} {H H' : Hp} {m m' : List Addr} (k : Kp K H H') (e : Ex m m') : ∀ (x : List PV) (v : List V), RVs K H m x v → RVs K H' m' x v
  | [], v, h => h
  | x :: xs, v, h => by obtain ⟨w, r, a, b, c⟩ := h; exact ⟨w, r, a, RV.mono k e x w b, RVs.mono k e xs r c⟩
end
theorem RKs.mono {K : PySem.W.Frag} {H H' : Hp} {m m' : List Addr} (k : Kp K H H') (e : Ex m m') : ∀ (x : List (PV × PV)) (v : List (Key × V)), RKs K H m x v → RKs K H' m' x v
  | [], v, h => h
  | (x, y) :: xs, v, h => by obtain ⟨w, u, r, a, b, c, d⟩ := h; exact ⟨w, u, r, a, b, RV.mono k e y u c, RKs.mono k e xs r d⟩
theorem optR.mono {K : PySem.W.Frag} {H H' : Hp} {m m' : List Addr} (k : Kp K H H') (e : Ex m m') : ∀ (x : Option PV) (v : Option V), optR K H m x v → optR K H' m' x v
  | some x, some v, h => RV.mono k e x v h
  | none, none, _ => trivial
  | some _, none, h => h.elim
  | none, some _, h => h.elim
theorem RL.mono {K : PySem.W.Frag} {H H' : Hp} {m m' : List Addr} {l : Loc} {σ : L2.St} (k : Kp K H H') (e : Ex m m') (r : RL K H m l σ) : RL K H' m' l σ :=
  ⟨r.1, fun i v h => let ⟨w, a, b⟩ := r.2 i v h; ⟨w, a, b.mono k e _ _⟩⟩
theorem RVs.len {K : PySem.W.Frag} {H : Hp} {m : List Addr} : ∀ {xs : List PV} {vs : List V}, RVs K H m xs vs → xs.length = vs.length
  | [], vs, h => by cases (show vs = [] from h); rfl
  | x :: xs, vs, h => by obtain ⟨v, r, a, _, c⟩ := h; subst a; rw [List.length_cons, List.length_cons, RVs.len c]
theorem RVs.get {K : PySem.W.Frag} {H : Hp} {m : List Addr} : ∀ {xs : List PV} {vs : List V} {i : Nat} {x : PV}, RVs K H m xs vs → xs[i]? = some x → ∃ v, vs[i]? = some v ∧ RV K H m x v
  | [], vs, i, x, h, e => by simp at e
  | y :: ys, vs, 0, x, h, e => by
    obtain ⟨v, r, a, b, c⟩ := h
    subst a
    simp at e; subst e
    exact ⟨v, rfl, b⟩
  | y :: ys, vs, i + 1, x, h, e => by
    obtain ⟨v, r, a, b, c⟩ := h
    subst a
    obtain ⟨w, p, q⟩ := RVs.get (i := i) c (by simpa using e)
    exact ⟨w, by simpa using p, q⟩
theorem RVs.app {K : PySem.W.Frag} {H : Hp} {m : List Addr} : ∀ {xs ys : List PV} {vs ws : List V}, RVs K H m xs vs → RVs K H m ys ws → RVs K H m (xs ++ ys) (vs ++ ws)
  | [], ys, vs, ws, h, g => by cases (show vs = [] from h); exact g
  | x :: xs, ys, vs, ws, h, g => by obtain ⟨v, r, a, b, c⟩ := h; subst a; exact ⟨v, r ++ ws, rfl, b, RVs.app c g⟩
theorem RVs.one {K : PySem.W.Frag} {H : Hp} {m : List Addr} {x : PV} {v : V} (h : RV K H m x v) : RVs K H m [x] [v] := ⟨v, [], rfl, h, rfl⟩
theorem RVs.drop {K : PySem.W.Frag} {H : Hp} {m : List Addr} : ∀ {xs : List PV} {vs : List V} (n : Nat), RVs K H m xs vs → RVs K H m (xs.drop n) (vs.drop n)
  | xs, vs, 0, h => h
  | [], vs, n + 1, h => by cases (show vs = [] from h); exact rfl
  | x :: xs, vs, n + 1, h => by obtain ⟨v, r, a, b, c⟩ := h; subst a; exact RVs.drop n c
theorem RVs.take {K : PySem.W.Frag} {H : Hp} {m : List Addr} : ∀ {xs : List PV} {vs : List V} (n : Nat), RVs K H m xs vs → RVs K H m (xs.take n) (vs.take n)
  | xs, vs, 0, h => rfl
  | [], vs, n + 1, h => by cases (show vs = [] from h); exact rfl
  | x :: xs, vs, n + 1, h => by obtain ⟨v, r, a, b, c⟩ := h; subst a; exact ⟨v, r.take n, rfl, b, RVs.take n c⟩
theorem RVs.setI {K : PySem.W.Frag} {H : Hp} {m : List Addr} {y : PV} {w : V} (hy : RV K H m y w) : ∀ {xs : List PV} {vs : List V} (i : Nat), RVs K H m xs vs → RVs K H m (xs.set i y) (vs.set i w)
  | [], vs, i, h => by cases (show vs = [] from h); exact rfl
  | x :: xs, vs, 0, h => by obtain ⟨v, r, a, b, c⟩ := h; subst a; exact ⟨w, r, rfl, hy, c⟩
  | x :: xs, vs, i + 1, h => by obtain ⟨v, r, a, b, c⟩ := h; subst a; exact ⟨v, r.set i w, rfl, b, RVs.setI hy i c⟩
theorem RO.mono {M : Mo} {H H' : Hp} {m m' : List Addr} {o : PO} {p : Addr} (k : Kp M.K H H') (e : Ex m m') (hp : ∀ u, H p = some u → H' p = some u) (r : RO M H m o p) : RO M H' m' o p := by
  cases o with
  | lst xs => obtain ⟨vs, a, b⟩ := r; exact ⟨vs, hp _ a, b.mono k e _ _⟩
  | frl xs =>
    obtain ⟨vs, a, b⟩ := r
    refine ⟨vs, ?_, b.mono k e _ _⟩
    rcases a with ⟨o, a⟩ | a
    · exact .inl ⟨o, hp _ a⟩
    · exact .inr a
  | dic kvs => obtain ⟨vs, a, b⟩ := r; exact ⟨vs, hp _ a, b.mono k e _ _⟩
  | ins c fs => obtain ⟨dx, gs, cd, a, b, c1, d⟩ := r; exact ⟨dx, gs, cd, hp _ a, b, fun f hf => (c1 f hf).mono k e _ _, d⟩
/-- the tracked content of an object that is no frozen list -/
theorem RO.at {M : Mo} {H : Hp} {m : List Addr} {o : PO} {p : Addr} (r : RO M H m o p) (n : isFrl o = false) : ∃ u, H p = some u ∧ notTup u = true := by
  cases o with
  | lst xs => obtain ⟨vs, a, b⟩ := r; exact ⟨_, a, rfl⟩
  | frl xs => cases n
  | dic kvs => obtain ⟨vs, a, b⟩ := r; exact ⟨_, a, rfl⟩
  | ins c fs => obtain ⟨dx, gs, cd, a, _⟩ := r; exact ⟨_, a, rfl⟩
theorem RH.lt {M : Mo} {H : Hp} {m : List Addr} {h : PH} (r : RH M H m h) {a : Nat} {p : Addr} (e : m[a]? = some p) : ∃ o, h[a]? = some o := by
  have h1 := (List.getElem?_eq_some_iff.mp e).1
  rw [r.len] at h1
  exact ⟨h[a], List.getElem?_eq_getElem h1⟩
theorem RH.addr {M : Mo} {H : Hp} {m : List Addr} {h : PH} (r : RH M H m h) {a : Nat} {o : PO} (e : h[a]? = some o) : ∃ p, m[a]? = some p ∧ RO M H m o p := by
  have h1 := (List.getElem?_eq_some_iff.mp e).1
  rw [← r.len] at h1
  exact ⟨m[a], List.getElem?_eq_getElem h1, r.obj a o _ e (List.getElem?_eq_getElem h1)⟩
theorem isK_of {K : PySem.W.Frag} {H : Hp} {m : List Addr} {k : PV} {y : V} (h : isK k = true) (r : RV K H m k y) : ∃ q, keyV k = some q ∧ y = kV q := by
  cases k <;> first | exact absurd h Bool.false_ne_true | skip
  · exact ⟨_, rfl, r⟩
  · exact ⟨_, rfl, r⟩
theorem eqK_of {x k : PV} {p q : Key} (hx : keyV x = some p) (hk : keyV k = some q) : eqK x k = decide (p = q) := by
  cases x <;> first | cases hx; done | skip
  all_goals (cases k <;> first | cases hk; done | skip)
  all_goals cases hx
  all_goals cases hk
  all_goals (unfold eqK; rw [Bool.eq_iff_iff]; simp)
theorem look_of {K : PySem.W.Frag} {H : Hp} {m : List Addr} {k : PV} {q : Key} (hk : keyV k = some q) : ∀ {xs : List (PV × PV)} {ks : List (Key × V)}, RKs K H m xs ks → optR K H m (lookD k xs) (valV ks q)
  | [], ks, h => by cases (show ks = [] from h); exact trivial
  | (x, y) :: r, ks, h => by
    obtain ⟨p, v, s, rfl, hx, rv, hr⟩ := h
    have e := eqK_of hx hk
    show optR K H m (if eqK x k = true then some y else lookD k r) _
    by_cases hp : p = q
    · rw [e, decide_eq_true hp, if_pos rfl, valV_pos (show ((p, v) : Key × V).1 = q from hp)]
      exact rv
    · rw [e, decide_eq_false hp, if_neg Bool.false_ne_true]
      have e2 : valV ((p, v) :: s) q = valV s q := by simp [valV, List.find?_cons, hp]
      rw [e2]
      exact look_of hk hr
theorem any_of {K : PySem.W.Frag} {H : Hp} {m : List Addr} {k : PV} {q : Key} (hk : keyV k = some q) : ∀ {xs : List (PV × PV)} {ks : List (Key × V)}, RKs K H m xs ks → (xs.any fun p => eqK p.1 k) = ks.any fun kv => decide (kv.1 = q)
  | [], ks, h => by cases (show ks = [] from h); rfl
  | (x, y) :: r, ks, h => by
    obtain ⟨p, v, s, rfl, hx, rv, hr⟩ := h
    rw [List.any_cons, List.any_cons, any_of hk hr]
    show (eqK x k || _) = (decide (p = q) || _)
    rw [eqK_of hx hk]
theorem map_of {K : PySem.W.Frag} {H : Hp} {m : List Addr} {k z : PV} {q : Key} {w : V} (hk : keyV k = some q) (hz : RV K H m z w) : ∀ {xs : List (PV × PV)} {ks : List (Key × V)}, RKs K H m xs ks → RKs K H m (xs.map fun p => if eqK p.1 k = true then (p.1, z) else p) (ks.map fun kv => if kv.1 = q then (kv.1, w) else kv)
  | [], ks, h => by cases (show ks = [] from h); rfl
  | (x, y) :: r, ks, h => by
    obtain ⟨p, v, s, rfl, hx, rv, hr⟩ := h
    have ih := map_of hk hz hr
    have e := eqK_of hx hk
    rw [List.map_cons, List.map_cons]
    by_cases hp : p = q
    · rw [show (if eqK (x, y).1 k = true then ((x, y).1, z) else (x, y)) = (x, z) from if_pos (by show eqK x k = true; rw [e, decide_eq_true hp]), show (if ((p, v) : Key × V).1 = q then (((p, v) : Key × V).1, w) else (p, v)) = (p, w) from if_pos hp]
      exact ⟨p, w, _, rfl, hx, hz, ih⟩
    · rw [show (if eqK (x, y).1 k = true then ((x, y).1, z) else (x, y)) = (x, y) from if_neg (by show ¬ eqK x k = true; rw [e, decide_eq_false hp]; exact Bool.false_ne_true), show (if ((p, v) : Key × V).1 = q then (((p, v) : Key × V).1, w) else (p, v)) = (p, v) from if_neg hp]
      exact ⟨p, v, _, rfl, hx, rv, ih⟩
theorem snoc_of {K : PySem.W.Frag} {H : Hp} {m : List Addr} {k z : PV} {q : Key} {w : V} (hk : keyV k = some q) (hz : RV K H m z w) : ∀ {xs : List (PV × PV)} {ks : List (Key × V)}, RKs K H m xs ks → RKs K H m (xs ++ [(k, z)]) (ks ++ [(q, w)])
  | [], ks, h => by cases (show ks = [] from h); exact ⟨q, w, [], rfl, hk, hz, rfl⟩
  | (x, y) :: r, ks, h => by
    obtain ⟨p, v, s, rfl, hx, rv, hr⟩ := h
    exact ⟨p, v, _, rfl, hx, rv, snoc_of hk hz hr⟩
theorem put_of {K : PySem.W.Frag} {H : Hp} {m : List Addr} {k z : PV} {q : Key} {w : V} (hk : keyV k = some q) (hz : RV K H m z w) {xs : List (PV × PV)} {ks : List (Key × V)} (h : RKs K H m xs ks) : RKs K H m (putD k z xs) (putK ks q w) := by
  unfold putD putK
  rw [any_of hk h]
  split
  · exact map_of hk hz h
  · exact snoc_of hk hz h
theorem RKs.len {K : PySem.W.Frag} {H : Hp} {m : List Addr} : ∀ {xs : List (PV × PV)} {ks : List (Key × V)}, RKs K H m xs ks → xs.length = ks.length
  | [], ks, h => by cases (show ks = [] from h); rfl
  | (x, y) :: r, ks, h => by
    obtain ⟨p, v, s, rfl, _, _, hr⟩ := h
    exact congrArg Nat.succ hr.len
/-- a new object -/
theorem RH.new {M : Mo} {H : Hp} {m : List Addr} {h : PH} {p : Addr} {u : HO} {o : PO} (r : RH M H m h) (hp : H p = none) (ho : RO M (upd H p u) (m ++ [p]) o p) (nf : isFrl o = false) :
    RH M (upd H p u) (m ++ [p]) (h ++ [o]) := by
  have k : Kp M.K H (upd H p u) := Kp.upd_new hp
  have ex : Ex m (m ++ [p]) := Ex.app m p
  have old : ∀ (a : Nat) (o' : PO) (q : Addr), h[a]? = some o' → m[a]? = some q → isFrl o' = false → q ≠ p := fun a o' q e1 e2 hf z => by
    subst z
    obtain ⟨u', e3, _⟩ := (r.obj a o' q e1 e2).at hf
    rw [hp] at e3; cases e3
  have cases_ : ∀ (a : Nat) (o' : PO) (q : Addr), (h ++ [o])[a]? = some o' → (m ++ [p])[a]? = some q → (h[a]? = some o' ∧ m[a]? = some q) ∨ (a = h.length ∧ o' = o ∧ q = p) := fun a o' q e1 e2 => by
    by_cases ha : a < h.length
    · rw [List.getElem?_append_left ha] at e1
      rw [List.getElem?_append_left (by rw [r.len]; exact ha)] at e2
      exact .inl ⟨e1, e2⟩
    · rw [List.getElem?_append_right (Nat.le_of_not_lt ha)] at e1
      rw [List.getElem?_append_right (by rw [r.len]; exact Nat.le_of_not_lt ha), r.len] at e2
      have hz : a - h.length = 0 := by
        cases hn : a - h.length with
        | zero => rfl
        | succ n => rw [hn] at e1; simp at e1
      rw [hz] at e1 e2
      simp at e1 e2
      exact .inr ⟨by omega, e1.symm, e2.symm⟩
  refine ⟨by simp [r.len], fun a o' q e1 e2 => ?_, fun a b q o1 o2 e1 e2 e3 e4 n1 n2 => ?_⟩
  · rcases cases_ a o' q e1 e2 with ⟨e1, e2⟩ | ⟨_, rfl, rfl⟩
    · exact (r.obj a o' q e1 e2).mono k ex fun u e => (upd_ne (ne_of_none e hp)).trans e
    · exact ho
  · rcases cases_ a o1 q e3 e1 with ⟨e3, e1⟩ | ⟨ha, _, hqa⟩ <;> rcases cases_ b o2 q e4 e2 with ⟨e4, e2⟩ | ⟨hb, _, hqb⟩
    · exact r.inj a b q o1 o2 e1 e2 e3 e4 n1 n2
    · exact absurd hqb (old a o1 q e3 e1 n1)
    · exact absurd hqa (old b o2 q e4 e2 n2)
    · omega
/-- an object changed -/
theorem RH.put {M : Mo} {H : Hp} {m : List Addr} {h : PH} {a : Nat} {p : Addr} {u : HO} {o o0 : PO} (r : RH M H m h) (e0 : h[a]? = some o0) (ep : m[a]? = some p) (n0 : isFrl o0 = false) (nf : isFrl o = false)
    (ho : RO M (upd H p u) m o p) : RH M (upd H p u) m (h.set a o) ∧ Kp M.K H (upd H p u) := by
  obtain ⟨u0, e3, n3⟩ := (r.obj a o0 p e0 ep).at n0
  have k : Kp M.K H (upd H p u) := Kp.upd_old e3 n3
  have hlt := (List.getElem?_eq_some_iff.mp e0).1
  refine ⟨⟨by simp [r.len], fun b o' q e1 e2 => ?_, fun b c q o1 o2 e1 e2 e3' e4 n1 n2 => ?_⟩, k⟩
  · by_cases hb : b = a
    · subst hb
      rw [List.getElem?_set_self hlt] at e1
      rw [ep] at e2
      cases e1; cases e2
      exact ho
    · rw [List.getElem?_set_ne (Ne.symm hb)] at e1
      have ro := r.obj b o' q e1 e2
      by_cases hq : q = p
      · subst hq
        cases hf : isFrl o' with
        | false => exact absurd (r.inj b a q o' o0 e2 ep e1 e0 hf n0) hb
        | true =>
          cases o' with
          | frl xs =>
            obtain ⟨vs, s, rv⟩ := ro
            refine ⟨vs, ?_, rv.mono k (Ex.refl m) _ _⟩
            rcases s with ⟨ob, s⟩ | s
            · rw [e3] at s; cases s; cases n3
            · exact .inr s
          | _ => cases hf
      · exact ro.mono k (Ex.refl m) fun u e => (upd_ne hq).trans e
  · have back : ∀ (b : Nat) (o1 : PO), (h.set a o)[b]? = some o1 → isFrl o1 = false → ∃ o1', h[b]? = some o1' ∧ isFrl o1' = false := fun b o1 e n => by
      by_cases hb : b = a
      · subst hb; exact ⟨o0, e0, n0⟩
      · rw [List.getElem?_set_ne (Ne.symm hb)] at e; exact ⟨o1, e, n⟩
    obtain ⟨o1', f1, g1⟩ := back b o1 e3' n1
    obtain ⟨o2', f2, g2⟩ := back c o2 e4 n2
    exact r.inj b c q o1' o2' e1 e2 f1 f2 g1 g2
end Py

set_option Elab.async false
set_option linter.all false
set_option maxRecDepth 100000
set_option maxHeartbeats 4000000
/-! PyOps: operators that the layer lacks: tuple * 0, tuple * 1, is a truth, repr of data. -/
namespace Py
open PySem PySem.Spec PyProof.Rows L2
theorem mul_one (l : Addr) (items : Array Value) (n : Nat) (dd : Option Addr) (sl : Array (Option Value)) (u : Tok) :
    Meets (Builtin.«tuple.__mul__» ⟨[.ref l, .int 1 u], []⟩) (fun _ R s => s.heap.get? l = some { cls := .type "tuple", dict := dd, data := .seq items n, slots := sl } ∧ R (.ok (.ret (Value.ref l))) s) :=
  .of_wp fun prog w A R s h => by
    obtain ⟨hp, g, d, tk, os⟩ := s
    obtain ⟨hl, h⟩ := h
    have f1 := AutoSeq1.idx_int
    have c1 : (items.isEmpty || ((1 : Int) == 1)) = true := by simp
    wp_walk using wpAny_loadPart' hl
    repeat (first
      | (refine wpAny_ite_false (decide_eq_false (by decide)) ?_; wp_walk using wpAny_loadPart' hl)
      | (refine wpAny_ite_true (by first | exact c1 | exact decide_eq_true c1) ?_; wp_walk using wpAny_loadPart' hl))
    exact ⟨_, rfl, h⟩
theorem mul_none (l : Addr) (items : Array Value) (n : Nat) (dd : Option Addr) (sl : Array (Option Value)) (x : Int) (u : Tok) (c0 : (decide (x < -(2 ^ 63)) || decide (x ≥ 2 ^ 63)) = false) (c1 : (items.isEmpty || x == 1) = false) (c2 : (decide (x ≤ 0) || items.isEmpty) = true) :
    Meets (Builtin.«tuple.__mul__» ⟨[.ref l, .int x u], []⟩) (fun _ R s => s.heap.get? l = some { cls := .type "tuple", dict := dd, data := .seq items n, slots := sl } ∧
      R (.ok (.ret (Value.ref s.heap.objs.size))) { s with heap := s.heap.push { cls := Value.type "tuple", data := Data.seq #[] }, toks := s.toks }) :=
  .of_wp fun prog w A R s h => by
    obtain ⟨hp, g, d, tk, os⟩ := s
    obtain ⟨hl, h⟩ := h
    have f1 := AutoSeq1.idx_int
    wp_walk using wpAny_loadPart' hl
    repeat (first
      | (refine wpAny_ite_false (decide_eq_false (by rw [c0]; exact Bool.false_ne_true)) ?_; wp_walk using wpAny_loadPart' hl)
      | (refine wpAny_ite_false (decide_eq_false (by rw [c1]; exact Bool.false_ne_true)) ?_; wp_walk using wpAny_loadPart' hl)
      | (refine wpAny_ite_true (by first | exact c2 | exact decide_eq_true c2) ?_; wp_walk using wpAny_loadPart' hl))
    exact ⟨_, rfl, h⟩
section
variable {X : Cx}
/-- tuple * int, the tuple not empty -/
def rMulT (K : PySem.W.Frag) : R2 := fun x y H Q => ∃ l k xs, x = .ref l ∧ y = .int k ∧ SqT K H l xs ∧ xs ≠ [] ∧ -1000 ≤ k ∧ k ≤ 1000 ∧ xs.length ≤ 1000 ∧ (k = 1 → Q (.ref l) H) ∧ (k ≤ 0 → ∀ p, H p = none → Q (.ref p) (upd H p (.tup []))) ∧
  (2 ≤ k → ∀ p, H p = none → Q (.ref p) (upd H p (.tup (List.replicate k.toNat xs).flatten)))
theorem op_mulT : OpR X (binaryOp .Mult) (rMulT X.K) := by
  intro pins s σ H x y v u Q I rx ry h
  obtain ⟨l, k, xs, rfl, rfl, hT, hne, h0, h1, hz, q1, q0, q2⟩ := h
  by_cases h2 : 2 ≤ k
  · exact op_repT pins s σ H _ _ v u Q I rx ry ⟨l, k, xs, rfl, rfl, hT, hne, h2, h1, hz, q2 h2⟩
  cases rx
  obtain ⟨t, rfl⟩ := ry
  obtain ⟨its, r, ⟨⟨cls, dd, data, sl⟩, ho, hc, n, hd⟩, hs⟩ := I.tuple hT
  simp only at hc hd
  subst hc hd
  by_cases h3 : k = 1
  · subst h3
    refine wpAny_binaryOp_repeat_ref (T := "tuple") (U := "int") (by decide) ⟨_, ho, rfl⟩ (fun s' => typeIs_int s' 1 t) noFill_tuple_mul F.fills_int_mul F.slot_int_rmul repeat_tuple F.slot_int_index.lookup
      (call_meets F.slot_int_rmul (typeIs_int s 1 t) F.entry_int_rmul (F.args_int_rmul_2 _ _) (int_rmul_tuple 1 t l its.toArray n dd sl)
        ⟨ho, rfl, ⟨_, ho, rfl⟩, call_meets F.slot_tuple_mul ⟨_, ho, rfl⟩ F.entry_tuple_mul (F.args_tuple_mul_2 _ _) (mul_one l its.toArray n dd sl t) ⟨ho, ?_⟩⟩)
    exact ⟨.ref l, _, I, rfl, q1 rfl⟩
  · have hn : its ≠ [] := fun e => hne (by
      have := r.length
      rw [e] at this
      exact List.eq_nil_of_length_eq_zero this)
    have hi : its.toArray.isEmpty = false := by
      cases its with
      | nil => exact absurd rfl hn
      | cons a b => rfl
    have k0 : k ≤ 0 := by omega
    refine wpAny_binaryOp_repeat_ref (T := "tuple") (U := "int") (by decide) ⟨_, ho, rfl⟩ (fun s' => typeIs_int s' k t) noFill_tuple_mul F.fills_int_mul F.slot_int_rmul repeat_tuple F.slot_int_index.lookup
      (call_meets F.slot_int_rmul (typeIs_int s k t) F.entry_int_rmul (F.args_int_rmul_2 _ _) (int_rmul_tuple k t l its.toArray n dd sl)
        ⟨ho, rfl, ⟨_, ho, rfl⟩, call_meets F.slot_tuple_mul ⟨_, ho, rfl⟩ F.entry_tuple_mul (F.args_tuple_mul_2 _ _) (mul_none l its.toArray n dd sl k t ?_ ?_ ?_) ⟨ho, ?_⟩⟩)
    · rw [decide_eq_false (by omega), decide_eq_false (by omega)] <;> rfl
    · rw [hi, Bool.false_or]
      exact beq_eq_false_iff_ne.mpr h3
    · rw [decide_eq_true k0] <;> rfl
    · exact ⟨.ref s.heap.objs.size, _, I.laid (t' := s.toks) (o := .tup []) (fun b ob q => Heap.get?_push_of_some _ q) (Nat.le_refl _) ⟨Nat.zero_le _, [], .nil, IsTup.new _ _⟩, rfl, q0 k0 _ (I.hok.fresh (Nat.le_refl _))⟩
/-- is a truth -/
theorem op_isB : OpR X (compareOp .Is) (fun x y H Q => ∃ b, y = .bl b ∧ (∀ a, x ≠ .ref a) ∧ (∀ n, x ≠ .ty n) ∧ Q (.bl (decide (x = .bl b))) H) := by
  intro pins s σ H x y v u Q I rx ry h
  obtain ⟨b, rfl, n1, n2, q⟩ := h
  cases ry
  have fin : ∀ {w : Value} {c : Bool}, plainIs w (.bool b) = true → (w == .bool b) = c → Q (.bl c) H → wpAny (model X.prog X.w) X.A (compareOp .Is w (.bool b)) (EP X pins σ Q) X.xe s := fun {w c} h1 h2 q => by
    subst h2
    exact wpAny_is_plain h1 ⟨.bl _, H, I, rfl, q⟩
  cases x with
  | non => cases rx; exact fin rfl rfl q
  | bl a =>
    cases rx
    refine fin rfl (c := decide (V.bl a = V.bl b)) ?_ q
    cases a <;> cases b <;> rfl
  | int i => obtain ⟨t, rfl⟩ := rx; exact fin rfl rfl q
  | str i => obtain ⟨t, rfl⟩ := rx; exact fin rfl rfl q
  | byt i => obtain ⟨t, rfl⟩ := rx; exact fin rfl rfl q
  | flt i => obtain ⟨t, rfl⟩ := rx; exact fin rfl rfl q
  | ref a => exact absurd rfl (n1 a)
  | ty n => exact absurd rfl (n2 n)
theorem op_isNB : OpR X (compareOp .IsNot) (fun x y H Q => ∃ b, y = .bl b ∧ (∀ a, x ≠ .ref a) ∧ (∀ n, x ≠ .ty n) ∧ Q (.bl (!decide (x = .bl b))) H) := by
  intro pins s σ H x y v u Q I rx ry h
  obtain ⟨b, rfl, n1, n2, q⟩ := h
  cases ry
  have fin : ∀ {w : Value} {c : Bool}, plainIs w (.bool b) = true → (w == .bool b) = c → Q (.bl (!c)) H → wpAny (model X.prog X.w) X.A (compareOp .IsNot w (.bool b)) (EP X pins σ Q) X.xe s := fun {w c} h1 h2 q => by
    subst h2
    exact wpAny_isNot_plain h1 ⟨.bl _, H, I, rfl, q⟩
  cases x with
  | non => cases rx; exact fin rfl rfl q
  | bl a =>
    cases rx
    refine fin rfl (c := decide (V.bl a = V.bl b)) ?_ q
    cases a <;> cases b <;> rfl
  | int i => obtain ⟨t, rfl⟩ := rx; exact fin rfl rfl q
  | str i => obtain ⟨t, rfl⟩ := rx; exact fin rfl rfl q
  | byt i => obtain ⟨t, rfl⟩ := rx; exact fin rfl rfl q
  | flt i => obtain ⟨t, rfl⟩ := rx; exact fin rfl rfl q
  | ref a => exact absurd rfl (n1 a)
  | ty n => exact absurd rfl (n2 n)
theorem foldl_app : ∀ (l : List (Array Nat)) (a : Array Nat), (l.foldl (· ++ ·) a).toList = a.toList ++ (l.map (·.toList)).flatten
  | [], a => by simp
  | x :: r, a => by rw [List.foldl_cons, foldl_app r (a ++ x)]; simp
/-- text * int -/
theorem op_mulStr : OpR X (binaryOp .Mult) (fun x y H Q => ∃ a k, x = .str a ∧ y = .int k ∧ -(2 ^ 63) ≤ k ∧ k < 2 ^ 63 ∧ a.length * k.toNat ≤ 16777216 ∧ a.length ≤ 16777216 ∧ Q (.str ⟨(List.replicate k.toNat a.cps.toList).flatten.toArray⟩) H) := by
  intro pins s σ H x y v u Q I rx ry h
  obtain ⟨a, k, rfl, rfl, h1, h2, h3, h4, q⟩ := h
  obtain ⟨t, rfl⟩ := rx
  obtain ⟨t', rfl⟩ := ry
  have fin : ∀ (z : Str) (tk : Tok) (s' : Shared), z = ⟨(List.replicate k.toNat a.cps.toList).flatten.toArray⟩ → L2.Inv X pins σ H s' → EP X pins σ Q (.str z tk) s' := fun z tk s' e I' => by
    subst e; exact ⟨.str _, H, I', ⟨tk, rfl⟩, q⟩
  refine PySem.P.mul_str (by rw [decide_eq_false (by omega), decide_eq_false (by omega)]; rfl) (fun hn _ => ?_) (fun hn _ => ?_) ?_
  · have hk : 0 < k := by omega
    have e : k = (k.toNat : Int) := by omega
    have h5 : (a.length : Int) * k ≤ 16777216 := by
      rw [e, ← Int.natCast_mul]; exact Int.ofNat_le.mpr h3
    have : (a.length : Int) ≤ (2 ^ 63 - 1) / k := by
      rw [Int.le_ediv_iff_mul_le hk]; omega
    omega
  · show decide _ = false
    exact decide_eq_false (by show ¬ _ > 2 ^ 24; omega)
  · split
    · rename_i hn
      refine ⟨by show (0 : Nat) ≤ 2 ^ 24; omega, fin _ _ _ ?_ (I.tok _)⟩
      rw [show k.toNat = 0 by omega]; rfl
    · rename_i hn
      split
      · rename_i h0
        refine fin a t s ?_ I
        rcases Bool.or_eq_true_iff.mp h0 with h0 | h0
        · have : k = 1 := by simpa using h0
          subst this
          simp
        · have : a.length = 0 := by simpa using h0
          have e : a.cps = #[] := Array.eq_empty_of_size_eq_zero this
          obtain ⟨c⟩ := a
          subst e
          simp
      · have e : (⟨(List.replicate k.toNat a.cps).foldl (· ++ ·) #[]⟩ : Str) = ⟨(List.replicate k.toNat a.cps.toList).flatten.toArray⟩ := by
          congr 1
          apply Array.ext'
          rw [foldl_app]; simp
        refine ⟨?_, fin _ _ _ e (I.tok _)⟩
        rw [e]
        show (List.flatten _).toArray.size ≤ 2 ^ 24
        rw [List.size_toArray, List.length_flatten, List.map_replicate, List.sum_replicate_nat]
        have : a.cps.toList.length = a.length := Array.length_toList
        rw [this, Nat.mul_comm]; omega
theorem call_repr_int : CallR X (.builtin "repr") (fun xs H Q => ∃ i, xs = [.int i] ∧ i.natAbs.log2 < 1920 ∧ Q (.str (toString i)) H) := by
  intro pins s σ H xs us Q I r h
  obtain ⟨i, rfl, hz, q⟩ := h
  obtain ⟨u, rfl, t, rfl⟩ := vals1 r
  exact PySem.P.repr_of_int hz ⟨.str _, H, I.tok _, ⟨_, rfl⟩, q⟩
theorem call_repr_none : CallR X (.builtin "repr") (fun xs H Q => xs = [.non] ∧ Q (.str "None") H) := by
  intro pins s σ H xs us Q I r h
  obtain ⟨rfl, q⟩ := h
  obtain ⟨u, rfl, rx⟩ := vals1 r
  cases rx
  exact PySem.P.repr_of_none ⟨.str _, H, I.tok _, ⟨_, rfl⟩, q⟩
/-- repr of data -/
theorem call_repr (hg : X.A.guards = some []) (hu : X.A.units + 66 < cLine) : CallR X (.builtin "repr") (fun xs H Q => ∃ a d, xs = [.ref a] ∧ Dp X.K H (.ref a) d ∧ SeqAt.shaped d = true ∧ d.showable = true ∧ d.shown.length ≤ sizeLine ∧ Q (.str d.shown) H) := by
  intro pins s σ H xs us Q I r h
  obtain ⟨a, d, rfl, hd, sh, show_, hz, q⟩ := h
  obtain ⟨u, rfl, rx⟩ := vals1 r
  obtain ⟨as, r1⟩ := Dp.reads I d _ u hd rx
  cases rx
  have dep := SeqAt.depth_of_shaped sh
  exact repr_of_reads' r1 show_ (PyData.noDict_hsm (PyData.hasDict_of_canLay d (SeqAt.canLay_of_shaped sh))) hg (by omega) (fun _ _ e => e) (fun h' u tk hk => ⟨.str _, H, I.kept hk, ⟨u, rfl⟩, q⟩) hz
end
end Py

set_option Elab.async false
set_option linter.all false
set_option maxRecDepth 100000
set_option maxHeartbeats 4000000
/-! PySound2: values by values: operators, comparisons, subscripts, built-ins. -/
namespace Py
open PySem PySem.Spec PyProof.Rows L2

/-! ### readings of the layer from readings of ours -/
def LQ (M : Mo) (m : List Addr) (H : Hp) (Q : VK) : KQ := fun v h' => ∀ (m' : List Addr) (H' : Hp) (w : V), Ex m m' → Kp M.K H H' → RH M H' m' h' → RV M.K H' m' v w → Q w H'
def LA (M : Mo) (m : List Addr) (H : Hp) (Q : List V → Hp → Prop) : List PV → PH → Prop := fun v h' => ∀ (m' : List Addr) (H' : Hp) (w : List V), Ex m m' → Kp M.K H H' → RH M H' m' h' → RVs M.K H' m' v w → Q w H'
def LB (M : Mo) {α : Type} (m : List Addr) (H : Hp) (Q : α → Hp → Prop) : α → PH → Prop := fun b h' => ∀ (m' : List Addr) (H' : Hp), Ex m m' → Kp M.K H H' → RH M H' m' h' → Q b H'
/-- exceptions -/
def RX (M : Mo) (H : Hp) (m : List Addr) (x : XV) (cls : Value) (d : Option Addr) : Prop := cls = .ref (M.ca x.c)
def LX (M : Mo) (W : WX) (σ : L2.St) (m : List Addr) (H : Hp) : KX := fun x h' => ∀ (m' : List Addr) (H' : Hp) (cls : Value) (d : Option Addr), Ex m m' → Kp M.K H H' → RH M H' m' h' → RX M H' m' x cls d → W cls d σ H'
section
variable {M : Mo} {m m1 : List Addr} {H H1 : Hp}
theorem LQ.mono {Q : VK} (e : Ex m m1) (k : Kp M.K H H1) : ∀ v h, LQ M m H Q v h → LQ M m1 H1 Q v h := fun v h q m' H' w e' k' r rv => q m' H' w (e.trans e') (k.trans k') r rv
theorem LA.mono {Q : List V → Hp → Prop} (e : Ex m m1) (k : Kp M.K H H1) : ∀ v h, LA M m H Q v h → LA M m1 H1 Q v h := fun v h q m' H' w e' k' r rv => q m' H' w (e.trans e') (k.trans k') r rv
theorem LB.mono {α : Type} {Q : α → Hp → Prop} (e : Ex m m1) (k : Kp M.K H H1) : ∀ v h, LB M m H Q v h → LB M m1 H1 Q v h := fun v h q m' H' e' k' r => q m' H' (e.trans e') (k.trans k') r
theorem LX.mono {W : WX} {σ : L2.St} (e : Ex m m1) (k : Kp M.K H H1) : ∀ v h, LX M W σ m H v h → LX M W σ m1 H1 v h := fun v h q m' H' c d e' k' r rx => q m' H' c d (e.trans e') (k.trans k') r rx
theorem LQ.at {Q : VK} {v : PV} {h : PH} {w : V} (q : LQ M m H Q v h) (r : RH M H m h) (rv : RV M.K H m v w) : Q w H := q m H w (Ex.refl m) (Kp.refl _ H) r rv
theorem LB.at {α : Type} {Q : α → Hp → Prop} {v : α} {h : PH} (q : LB M m H Q v h) (r : RH M H m h) : Q v H := q m H (Ex.refl m) (Kp.refl _ H) r
/-- a new object, handed on -/
theorem LQ.new {Q : VK} {h : PH} {o : PO} {u : HO} (q : LQ M m H Q (.ref h.length) (h ++ [o])) (r : RH M H m h) (nf : isFrl o = false) (ho : ∀ p, H p = none → RO M (upd H p u) (m ++ [p]) o p) : ∀ p, H p = none → Q (.ref p) (upd H p u) := fun p hp => by
  refine q (m ++ [p]) (upd H p u) (.ref p) (Ex.app m p) (Kp.upd_new hp) (r.new hp (ho p hp) nf) ⟨p, ?_, rfl⟩
  rw [← r.len]; simp
end

/-! ### lists, data -/
theorem lstOf_get {M : Mo} {H : Hp} {m : List Addr} {h : PH} {v : PV} {w : V} {xs : List PV} (r : RH M H m h) (rv : RV M.K H m v w) (e : lstOf h v = some xs) : ∃ p vs, w = .ref p ∧ SqL M.K H p vs ∧ RVs M.K H m xs vs := by
  unfold lstOf at e
  split at e
  · rename_i a
    obtain ⟨p, e1, rfl⟩ := rv
    split at e
    · rename_i ys e2
      cases e
      obtain ⟨vs, a1, a2⟩ := r.obj _ _ _ e2 e1
      exact ⟨p, vs, rfl, .inl (.inl a1), a2⟩
    · rename_i ys e2
      cases e
      obtain ⟨vs, a1, a2⟩ := r.obj _ _ _ e2 e1
      refine ⟨p, vs, rfl, ?_, a2⟩
      rcases a1 with ⟨o, a1⟩ | a1
      · exact .inl (.inr ⟨o, a1⟩)
      · exact .inr a1
    · cases e
  · cases e
theorem lst_get {M : Mo} {H : Hp} {m : List Addr} {h : PH} {a : Nat} {w : V} {xs : List PV} (r : RH M H m h) (rv : RV M.K H m (.ref a) w) (e : h[a]? = some (.lst xs)) : ∃ p vs, w = .ref p ∧ m[a]? = some p ∧ H p = some (.lst vs) ∧ RVs M.K H m xs vs := by
  obtain ⟨p, e1, rfl⟩ := rv
  obtain ⟨vs, a1, a2⟩ := r.obj _ _ _ e e1
  exact ⟨p, vs, rfl, e1, a1, a2⟩
theorem seqOf_get {M : Mo} {H : Hp} {m : List Addr} {h : PH} {v : PV} {w : V} {xs : List PV} (r : RH M H m h) (rv : RV M.K H m v w) (e : seqOf h v = some xs) : ∃ p vs, w = .ref p ∧ (SqL M.K H p vs ∨ SqT M.K H p vs) ∧ RVs M.K H m xs vs := by
  unfold seqOf at e
  split at e
  · cases e
    obtain ⟨p, vs, e1, e2, e3⟩ := rv
    exact ⟨p, vs, e1, .inr e2, e3⟩
  · obtain ⟨p, vs, a, b, c⟩ := lstOf_get r rv e
    exact ⟨p, vs, a, .inl b, c⟩
mutual
theorem Dat.dp {M : Mo} {H : Hp} {m : List Addr} {h : PH} (r : RH M H m h) : ∀ (d : PyData) (v : PV) (w : V), Dat h d v → RV M.K H m v w → Dp M.K H w d
  | .none, v, w, e, rv => by cases (show v = .non from e); cases (show w = .non from rv); exact .non
  | .bool b, v, w, e, rv => by cases (show v = .bl b from e); cases (show w = .bl b from rv); exact .bl b
  | .int i, v, w, e, rv => by cases (show v = .int i from e); cases (show w = .int i from rv); exact .int i
  | .str s, v, w, e, rv => by cases (show v = .str s from e); cases (show w = .str s from rv); exact .str s
  | .tuple ds, v, w, e, rv => by
    obtain ⟨xs, rfl, e2⟩ := e
    obtain ⟨p, vs, rfl, e3, e4⟩ := rv
    exact .tup e3 (Dats.dp r ds xs vs e2 e4)
  | .list ds, v, w, e, rv => by
    obtain ⟨xs, e1, e2⟩ := e
    obtain ⟨p, vs, rfl, e3, e4⟩ := lstOf_get r rv e1
    exact .lst e3 (Dats.dp r ds xs vs e2 e4)
  | .dict _, v, w, e, rv => e.elim
theorem Dats.dp {M : Mo} {H : Hp} {m : List Addr} {h : PH} (r : RH M H m h) : ∀ (d : List PyData) (v : List PV) (w : List V), Dats h d v → RVs M.K H m v w → DpAll M.K H w d
  | [], v, w, e, rv => by cases (show v = [] from e); cases (show w = [] from rv); exact .nil
  | d :: ds, v, w, e, rv => by
    obtain ⟨y, ys, rfl, e1, e2⟩ := e
    obtain ⟨z, zs, rfl, e3, e4⟩ := rv
    exact .cons (Dat.dp r d y z e1 e3) (Dats.dp r ds ys zs e2 e4)
end
theorem RVs.rep {K : PySem.W.Frag} {H : Hp} {m : List Addr} {xs : List PV} {vs : List V} (h : RVs K H m xs vs) : ∀ n : Nat, RVs K H m (List.replicate n xs).flatten (List.replicate n vs).flatten
  | 0 => rfl
  | n + 1 => by rw [List.replicate_succ, List.replicate_succ, List.flatten_cons, List.flatten_cons]; exact h.app (RVs.rep h n)
theorem RV.isN {K : PySem.W.Frag} {H : Hp} {m : List Addr} {a : PV} {x : V} (ra : RV K H m a x) : isNonB a = decide (x = .non) := by
  cases a with
  | non => cases (show x = .non from ra); rfl
  | bl _ => cases (show x = .bl _ from ra); rfl
  | int _ => cases (show x = .int _ from ra); rfl
  | str _ => cases (show x = .str _ from ra); rfl
  | tup _ => obtain ⟨p, vs, rfl, _⟩ := ra; rfl
  | ref _ => obtain ⟨p, _, rfl⟩ := ra; rfl
theorem atI_eq {α : Type} (xs : List α) (i : Int) : L2.atI xs i = atI xs i := rfl
theorem RVs.atI {K : PySem.W.Frag} {H : Hp} {m : List Addr} {xs : List PV} {vs : List V} {i : Int} {x : PV} (h : RVs K H m xs vs) (e : Py.atI xs i = some x) : ∃ v, L2.atI vs i = some v ∧ RV K H m x v := by
  unfold Py.atI at e
  rw [h.len] at e
  obtain ⟨j, e1, e2⟩ := Option.bind_eq_some_iff.mp e
  obtain ⟨v, e3, e4⟩ := h.get e2
  refine ⟨v, ?_, e4⟩
  show (L2.ixN vs.length i).bind _ = _
  rw [show L2.ixN vs.length i = Py.ixN vs.length i from rfl, e1]
  exact e3
theorem RVs.cut {K : PySem.W.Frag} {H : Hp} {m : List Addr} {xs : List PV} {vs : List V} (lo hi : Option Int) (h : RVs K H m xs vs) : RVs K H m (Py.cut xs lo hi) (L2.cutV vs lo hi) := by
  unfold Py.cut L2.cutV
  have e : ∀ n d o, HT.sIx n d o = Py.sIx n d o := fun n d o => by cases o <;> rfl
  rw [h.len, e, e]
  exact RVs.take _ (RVs.drop _ h)
theorem cut_whole {α : Type} (xs : List α) (lo hi : Option Int) (h1 : sIx xs.length 0 lo = 0) (h2 : sIx xs.length xs.length hi = xs.length) : cut xs lo hi = xs := by
  unfold cut
  rw [h1, h2]
  simp

/-! ### operators -/
def bopOf : BO → Operator
  | .add => .Add | .sub => .Sub | .mul => .Mult | .fdiv => .FloorDiv | .mod => .Mod | .pow => .Pow
def copOf : CO → CmpOp
  | .eq => .Eq | .ne => .NotEq | .lt => .Lt | .le => .LtE | .gt => .Gt | .ge => .GtE | .inn => .In | .nin => .NotIn | .isN => .Is | .notN => .IsNot
def r2 (M : Mo) (R : PV → PV → PH → KQ → Prop) : R2 := fun x y H Q => ∃ m h a b, RH M H m h ∧ RV M.K H m a x ∧ RV M.K H m b y ∧ R a b h (LQ M m H Q)
theorem op_fdivG {X : Cx} : OpR X (binaryOp .FloorDiv) (rI (fun _ j => j ≠ 0 ∧ j.natAbs.log2 < 9000) fun i j => .int (i.fdiv j)) := opI fun i j _ _ _ _ _ hc q => floordiv_int hc.1 q (.inl (PyProof.noPylong_of_log2 hc.2))
section
variable {M : Mo} {X : Cx}
theorem sB (hK : X.K = M.K) : ∀ (o : BO), OpR X (binaryOp (bopOf o)) (r2 M (binV o)) := by
  intro o pins s σ H x y v u Q I rx ry h
  obtain ⟨m, hh, a, b, rh, ra, rb, q⟩ := h
  unfold binV at q
  split at q
  · cases (show x = .int _ from ra); cases (show y = .int _ from rb)
    exact op_add pins s σ H _ _ v u Q I rx ry ⟨_, _, rfl, rfl, q.at rh rfl⟩
  · cases (show x = .str _ from ra); cases (show y = .str _ from rb)
    exact op_add_str pins s σ H _ _ v u Q I rx ry ⟨_, _, rfl, rfl, q.1, q.2.at rh rfl⟩
  · rename_i xs ys
    obtain ⟨p, vs, rfl, e1, e2⟩ := ra
    obtain ⟨p', ws, rfl, e3, e4⟩ := rb
    rw [← hK] at e1 e3
    have hl : vs.length + ws.length ≤ sizeLine := by rw [← e2.len, ← e4.len]; exact q.1
    refine op_catA pins s σ H _ _ v u Q I rx ry ⟨p, p', vs, ws, rfl, rfl, e1, e3, hl, fun hn => ?_, fun hn hn2 => ?_, fun hn hn2 p2 hp2 => ?_⟩
    · have : xs = [] := by have := e2.len; rw [hn] at this; simpa using this
      subst this
      rw [hK] at e3
      exact q.2.at rh ⟨p', ws, rfl, e3, e4⟩
    · have : ys = [] := by have := e4.len; rw [hn2] at this; simpa using this
      subst this
      rw [hK] at e1
      refine q.2.at rh ?_
      rw [List.append_nil]
      exact ⟨p, vs, rfl, e1, e2⟩
    · refine q.2 m (upd H p2 (.tup (vs ++ ws))) _ (Ex.refl m) (Kp.upd_new hp2) ?_ ⟨p2, vs ++ ws, rfl, .inl (.inl upd_same), (e2.app e4).mono (Kp.upd_new hp2) (Ex.refl m) _ _⟩
      exact ⟨rh.len, fun c o q' e1 e2 => (rh.obj c o q' e1 e2).mono (Kp.upd_new hp2) (Ex.refl m) fun u' e => (upd_ne (ne_of_none e hp2)).trans e, rh.inj⟩
  · obtain ⟨xs, ys, e1, e2, e3, q⟩ := q
    obtain ⟨p, vs, rfl, _, e4, e5⟩ := lst_get rh ra e1
    obtain ⟨p', ws, rfl, _, e6, e7⟩ := lst_get rh rb e2
    refine op_cat pins s σ H _ _ v u Q I rx ry ⟨p, p', vs, ws, rfl, rfl, e4, e6, by rw [← e5.len, ← e7.len]; exact e3, ?_⟩
    exact q.new rh rfl fun p2 hp2 => ⟨vs ++ ws, upd_same, (e5.app e7).mono (Kp.upd_new hp2) (Ex.app m p2) _ _⟩
  · cases (show x = .int _ from ra); cases (show y = .int _ from rb)
    exact op_sub pins s σ H _ _ v u Q I rx ry ⟨_, _, rfl, rfl, q.at rh rfl⟩
  · cases (show x = .int _ from ra); cases (show y = .int _ from rb)
    exact op_mul pins s σ H _ _ v u Q I rx ry ⟨_, _, rfl, rfl, q.1, q.2.at rh rfl⟩
  · obtain ⟨⟨n1, n2, n3, n4⟩, q⟩ := q
    cases (show x = .str _ from ra); cases (show y = .int _ from rb)
    exact op_mulStr pins s σ H _ _ v u Q I rx ry ⟨_, _, rfl, rfl, n1, n2, n3, n4, q.at rh rfl⟩
  · obtain ⟨⟨n1, n2, n3, n4⟩, q⟩ := q
    obtain ⟨p, vs, rfl, e1, e2⟩ := ra
    cases (show y = .int _ from rb)
    have el := e2.len
    rename_i xs k
    refine op_mulT pins s σ H _ _ v u Q I rx ry ⟨p, k, vs, rfl, rfl, by rw [hK]; exact e1, fun z => n1 (by rw [z] at el; exact List.eq_nil_of_length_eq_zero el), n2, n3, by rw [← el]; exact n4, fun e => ?_, fun e p2 hp2 => ?_, fun e p2 hp2 => ?_⟩
    · subst e
      refine q.at rh ?_
      have ez : (List.replicate (1 : Int).toNat xs).flatten = xs := by
        show [xs].flatten = xs
        simp
      rw [ez]
      exact ⟨p, vs, rfl, e1, e2⟩
    · have ez : (List.replicate k.toNat xs).flatten = [] := by
        rw [show k.toNat = 0 by omega]; rfl
      rw [ez] at q
      refine q m (upd H p2 (.tup [])) _ (Ex.refl m) (Kp.upd_new hp2) ?_ ⟨p2, [], rfl, .inl (.inl upd_same), rfl⟩
      exact ⟨rh.len, fun c o q' e1 e2 => (rh.obj c o q' e1 e2).mono (Kp.upd_new hp2) (Ex.refl m) fun u' e => (upd_ne (ne_of_none e hp2)).trans e, rh.inj⟩
    · refine q m (upd H p2 (.tup (List.replicate k.toNat vs).flatten)) _ (Ex.refl m) (Kp.upd_new hp2) ?_ ⟨p2, _, rfl, .inl (.inl upd_same), (e2.rep _).mono (Kp.upd_new hp2) (Ex.refl m) _ _⟩
      exact ⟨rh.len, fun c o q' e1 e2 => (rh.obj c o q' e1 e2).mono (Kp.upd_new hp2) (Ex.refl m) fun u' e => (upd_ne (ne_of_none e hp2)).trans e, rh.inj⟩
  · obtain ⟨xs, e1, e2, e3, e4, q⟩ := q
    obtain ⟨p, vs, rfl, _, e5, e6⟩ := lst_get rh ra e1
    cases (show y = .int _ from rb)
    refine op_rep pins s σ H _ _ v u Q I rx ry ⟨p, _, vs, rfl, rfl, e5, e2, e3, by rw [← e6.len]; exact e4, ?_⟩
    refine q.new rh rfl fun p2 hp2 => ⟨_, upd_same, ?_⟩
    refine RVs.mono (Kp.upd_new hp2) (Ex.app m p2) _ _ ?_
    exact e6.rep _
  · cases (show x = .int _ from ra); cases (show y = .int _ from rb)
    exact op_fdivG pins s σ H _ _ v u Q I rx ry ⟨_, _, rfl, rfl, ⟨q.1, q.2.1⟩, q.2.2.at rh rfl⟩
  · cases (show x = .int _ from ra); cases (show y = .int _ from rb)
    exact op_modN pins s σ H _ _ v u Q I rx ry ⟨_, _, rfl, rfl, q.1, q.2.at rh rfl⟩
  · cases (show x = .int _ from ra); cases (show y = .int _ from rb)
    exact op_pow pins s σ H _ _ v u Q I rx ry ⟨_, _, rfl, rfl, q.1, q.2.at rh rfl⟩
  · exact q.elim
theorem sA : ∀ (o : BO), OpR X (inplaceOp (bopOf o)) (r2 M (augV o)) := by
  intro o pins s σ H x y v u Q I rx ry h
  obtain ⟨m, hh, a, b, rh, ra, rb, q⟩ := h
  unfold augV at q
  split at q
  · cases (show x = .int _ from ra); cases (show y = .int _ from rb)
    exact iop_add pins s σ H _ _ v u Q I rx ry ⟨_, _, rfl, rfl, q.at rh rfl⟩
  · cases (show x = .str _ from ra); cases (show y = .str _ from rb)
    exact iop_add_str pins s σ H _ _ v u Q I rx ry ⟨_, _, rfl, rfl, q.1, q.2.at rh rfl⟩
  · cases (show x = .int _ from ra); cases (show y = .int _ from rb)
    exact iop_sub pins s σ H _ _ v u Q I rx ry ⟨_, _, rfl, rfl, q.at rh rfl⟩
  · exact q.elim
/-- a comparison -/
def rC (M : Mo) (o : CO) : R2 := fun x y H Q => ∃ m h a b, RH M H m h ∧ RV M.K H m a x ∧ RV M.K H m b y ∧ cmpV o a b h (LB M m H fun r H' => Q (.bl r) H')
theorem flP_of {K : PySem.W.Frag} {H : Hp} {m : List Addr} {a : PV} {x : V} (f : flP a = true) (r : RV K H m a x) : flatV x = true := by
  cases a <;> first | exact absurd f Bool.false_ne_true | skip
  · cases (show x = .non from r); rfl
  · cases (show x = .bl _ from r); rfl
  · cases (show x = .int _ from r); rfl
  · cases (show x = .str _ from r); rfl
theorem flPs_of {K : PySem.W.Frag} {H : Hp} {m : List Addr} : ∀ {xs : List PV} {vs : List V}, xs.all flP = true → RVs K H m xs vs → vs.all flatV = true
  | [], vs, f, r => by cases (show vs = [] from r); rfl
  | x :: xs, vs, f, r => by
    obtain ⟨v, w, rfl, r1, r2⟩ := r
    rw [List.all_cons, Bool.and_eq_true] at f ⊢
    exact ⟨flP_of f.1 r1, flPs_of f.2 r2⟩
theorem eqP_of {K : PySem.W.Frag} {H : Hp} {m : List Addr} {a b : PV} {x y : V} (fa : flP a = true) (fb : flP b = true) (ra : RV K H m a x) (rb : RV K H m b y) : eqV x y = eqP a b := by
  cases a <;> first | exact absurd fa Bool.false_ne_true | skip
  all_goals (cases b <;> first | exact absurd fb Bool.false_ne_true | skip)
  all_goals (first | cases (show x = .non from ra) | cases (show x = .bl _ from ra) | cases (show x = .int _ from ra) | cases (show x = .str _ from ra))
  all_goals (first | cases (show y = .non from rb) | cases (show y = .bl _ from rb) | cases (show y = .int _ from rb) | cases (show y = .str _ from rb))
  all_goals rfl
theorem inP_of {K : PySem.W.Frag} {H : Hp} {m : List Addr} {a : PV} {x : V} (fa : flP a = true) (ra : RV K H m a x) : ∀ {xs : List PV} {vs : List V}, xs.all flP = true → RVs K H m xs vs → inV x vs = xs.any fun z => eqP z a
  | [], vs, f, r => by cases (show vs = [] from r); rfl
  | y :: xs, vs, f, r => by
    obtain ⟨v, w, rfl, r1, r2⟩ := r
    rw [List.all_cons, Bool.and_eq_true] at f
    show (eqV v x || inV x w) = (eqP y a || xs.any fun z => eqP z a)
    rw [eqP_of f.1 fa r1 ra, inP_of fa ra f.2 r2]
theorem isRef_of {K : PySem.W.Frag} {H : Hp} {m : List Addr} {a : PV} {x : V} (n : notRef a = false) (r : RV K H m a x) : ∃ p, x = .ref p := by
  cases a with
  | tup xs => obtain ⟨p, vs, e, _⟩ := r; exact ⟨p, e⟩
  | ref a => obtain ⟨p, _, e⟩ := r; exact ⟨p, e⟩
  | non => cases n
  | bl b => cases n
  | int b => cases n
  | str b => cases n
theorem isB_of {K : PySem.W.Frag} {H : Hp} {m : List Addr} {a : PV} {x : V} {b : Bool} (n : notRef a = true) (r : RV K H m a x) : (∀ p, x ≠ .ref p) ∧ (∀ n, x ≠ .ty n) ∧ isBlB b a = decide (x = .bl b) := by
  cases a <;> first | exact absurd n Bool.false_ne_true | skip
  · cases (show x = .non from r); exact ⟨nofun, nofun, rfl⟩
  · cases (show x = .bl _ from r)
    rename_i c
    refine ⟨nofun, nofun, ?_⟩
    cases c <;> cases b <;> rfl
  · cases (show x = .int _ from r); exact ⟨nofun, nofun, rfl⟩
  · cases (show x = .str _ from r); exact ⟨nofun, nofun, rfl⟩
theorem sC (hK : X.K = M.K) (hu : X.A.units + 64 < cLine) : ∀ (o : CO), OpR X (compareOp (copOf o)) (rC M o) := by
  intro o pins s σ H x y v u Q I rx ry h
  obtain ⟨m, hh, a, b, rh, ra, rb, q⟩ := h
  unfold cmpV at q
  split at q
  · cases (show x = .str _ from ra); cases (show y = .str _ from rb)
    rename_i a b
    refine op_eq pins s σ H _ _ v u Q I rx ry ⟨rfl, ?_⟩
    have e : decide (V.str a = V.str b) = decide (a = b) := by rw [Bool.eq_iff_iff, decide_eq_true_iff, decide_eq_true_iff]; exact V.str.injEq a b ▸ Iff.rfl
    rw [e]; exact q.at rh
  · cases (show x = .str _ from ra); cases (show y = .str _ from rb)
    rename_i a b
    refine op_ne pins s σ H _ _ v u Q I rx ry ⟨rfl, ?_⟩
    have e : decide (V.str a = V.str b) = decide (a = b) := by rw [Bool.eq_iff_iff, decide_eq_true_iff, decide_eq_true_iff]; exact V.str.injEq a b ▸ Iff.rfl
    rw [e]; exact q.at rh
  · obtain ⟨c, rfl, q⟩ := q
    cases (show x = .str _ from ra); cases (show y = .str _ from rb)
    exact op_in_sign pins s σ H _ _ v u Q I rx ry ⟨c, _, rfl, rfl, q.at rh⟩
  · obtain ⟨c, rfl, q⟩ := q
    cases (show x = .str _ from ra); cases (show y = .str _ from rb)
    exact op_notIn_sign pins s σ H _ _ v u Q I rx ry ⟨c, _, rfl, rfl, q.at rh⟩
  · obtain ⟨xs, e, f1, f2, q⟩ := q
    obtain ⟨p, vs, rfl, e1, e2⟩ := seqOf_get rh rb e
    refine op_in_seq pins s σ H _ _ v u Q I rx ry ⟨p, vs, rfl, by rw [hK]; exact e1, flP_of f1 ra, flPs_of f2 e2, ?_⟩
    rw [if_neg Bool.false_ne_true, inP_of f1 ra f2 e2]; exact q.at rh
  · obtain ⟨xs, e, f1, f2, q⟩ := q
    obtain ⟨p, vs, rfl, e1, e2⟩ := seqOf_get rh rb e
    refine op_notIn_seq pins s σ H _ _ v u Q I rx ry ⟨p, vs, rfl, by rw [hK]; exact e1, flP_of f1 ra, flPs_of f2 e2, ?_⟩
    rw [if_pos rfl, inP_of f1 ra f2 e2]; exact q.at rh
  · cases (show y = .bl _ from rb)
    obtain ⟨n1, n2, n3⟩ := isB_of q.1 ra
    refine op_isB pins s σ H _ _ v u Q I rx ry ⟨_, rfl, n1, n2, ?_⟩
    rw [← n3]; exact q.2.at rh
  · cases (show y = .bl _ from rb)
    obtain ⟨n1, n2, n3⟩ := isB_of q.1 ra
    refine op_isNB pins s σ H _ _ v u Q I rx ry ⟨_, rfl, n1, n2, ?_⟩
    rw [← n3]; exact q.2.at rh
  · obtain ⟨d, e, h1, h2, h3, h4, q⟩ := q
    refine op_eqD hu pins s σ H _ _ v u Q I rx ry ⟨d, e, ?_, ?_, h3, h4, q.at rh⟩
    · rw [hK]; exact Dat.dp rh _ _ _ h1 ra
    · rw [hK]; exact Dat.dp rh _ _ _ h2 rb
  · obtain ⟨d, e, h1, h2, h3, h4, q⟩ := q
    refine op_neD hu pins s σ H _ _ v u Q I rx ry ⟨d, e, ?_, ?_, h3, h4, q.at rh⟩
    · rw [hK]; exact Dat.dp rh _ _ _ h1 ra
    · rw [hK]; exact Dat.dp rh _ _ _ h2 rb
  · cases (show x = .int _ from ra); cases (show y = .int _ from rb)
    exact op_lt pins s σ H _ _ v u Q I rx ry ⟨_, _, rfl, rfl, q.at rh⟩
  · cases (show x = .int _ from ra); cases (show y = .int _ from rb)
    exact op_le pins s σ H _ _ v u Q I rx ry ⟨_, _, rfl, rfl, q.at rh⟩
  · cases (show x = .int _ from ra); cases (show y = .int _ from rb)
    exact op_gt pins s σ H _ _ v u Q I rx ry ⟨_, _, rfl, rfl, q.at rh⟩
  · cases (show x = .int _ from ra); cases (show y = .int _ from rb)
    exact op_ge pins s σ H _ _ v u Q I rx ry ⟨_, _, rfl, rfl, q.at rh⟩
  · cases (show y = .non from rb)
    refine op_isN pins s σ H _ _ v u Q I rx ry ⟨rfl, ?_⟩
    rw [← ra.isN]; exact q.at rh
  · cases (show y = .non from rb)
    refine op_notN pins s σ H _ _ v u Q I rx ry ⟨rfl, ?_⟩
    rw [← ra.isN]; exact q.at rh
  · exact q.elim
theorem tail_anyG {X : Cx} {pins : List (Addr × Obj)} {σ : L2.St} {H : Hp} {s : Shared} {a : Addr} {y w : V} {u : Value} {value slice : Expr} {Q : VK} (hu : X.A.units + 1 < cLine) (I : L2.Inv X pins σ H s) (g : DGet H a y (some w)) (ry : RelV y u) (q : Q w H) (hs : subscripted slice false (.ref a) u = operate [.ref a, u] (getItem (.ref a) u)) :
    wpAny (model X.prog X.w) X.A (subscriptTail value slice (.ref a) u) (EP X pins σ Q) X.xe s := by
  unfold subscriptTail
  refine wpAny_bind ?_
  rw [getitemInPython_of_ne (dict_typeIs I g).not_modules]
  refine wpAny_bind (wpAny_specialOf (dict_typeIs I g) PySem.F.slot_dict_getitem.lookup ?_)
  have fin : wpAny (model X.prog X.w) X.A (subscripted slice false (.ref a) u) (fun r s₃ => wpAny (model X.prog X.w) X.A (letTemporaryGo value (.ref a) r >>= fun _ => pure r) (EP X pins σ Q) X.xe s₃) X.xe s := by
    rw [hs]
    exact wpAny_operating (d_getItem hu I g ry fun w' s3 I3 rw' => wpAny_bind (wpAny_letTemporaryGo (wpAny_pure ⟨w, H, I3, rw', q⟩)))
  first
    | exact wpAny_pure (wpAny_bind fin)
    | exact wpAny_bind (wpAny_pure (wpAny_bind fin))
    | exact wpAny_bind fin
    | exact wpAny_pure fin
theorem sIx_ (hK : X.K = M.K) (hu : X.A.units + 1 < cLine) : IxR X (r2 M idxV) := by
  intro value slice pins s σ H x y v u Q I rx ry h hs
  obtain ⟨m, hh, a, b, rh, ra, rb, q⟩ := h
  unfold idxV at q
  split at q
  · obtain ⟨z, e, q⟩ := q
    obtain ⟨p, vs, rfl, e1, e2⟩ := ra
    cases (show y = .int _ from rb)
    obtain ⟨w, e3, e4⟩ := e2.atI e
    exact ix_tup value slice pins s σ H _ _ v u Q I rx ry ⟨p, vs, _, w, rfl, rfl, by rw [hK]; exact e1, e3, q.at rh e4⟩ hs
  · obtain ⟨hl, c, e, q⟩ := q
    cases (show x = .str _ from ra); cases (show y = .int _ from rb)
    exact ix_str value slice pins s σ H _ _ v u Q I rx ry ⟨_, _, c, rfl, rfl, hl, e, q.at rh rfl⟩ hs
  · obtain ⟨xs, z, e0, e, q⟩ := q
    obtain ⟨p, vs, rfl, e1, e2⟩ := lstOf_get rh ra e0
    cases (show y = .int _ from rb)
    obtain ⟨w, e3, e4⟩ := e2.atI e
    exact ix_list value slice pins s σ H _ _ v u Q I rx ry ⟨p, vs, _, w, rfl, rfl, by rw [hK]; exact e1, e3, q.at rh e4⟩ hs
  · rename_i k
    obtain ⟨kvs, z, e0, e, q⟩ := q
    cases (show y = .str k from rb)
    obtain ⟨p, ep, rfl⟩ := ra
    obtain ⟨ks, e4, rk⟩ := rh.obj _ _ _ e0 ep
    cases rx
    have lk := look_of (k := .str k) (q := .inr k) rfl rk
    rw [e] at lk
    cases e6 : valV ks (.inr k) with
    | none => rw [e6] at lk; exact lk.elim
    | some w =>
      rw [e6] at lk
      have g : DGet H p (.str k) (some w) := by rw [← e6]; exact DGet.k (k := .inr k) e4
      exact tail_anyG hu I g ry (q.at rh lk) hs
  · exact q.elim
def rS (M : Mo) : V → Option Int → Option Int → Hp → VK → Prop := fun x lo hi H Q => ∃ m h a, RH M H m h ∧ RV M.K H m a x ∧ slcV a lo hi h (LQ M m H Q)
theorem sSl (hK : X.K = M.K) : SlR X (rS M) := by
  intro pins s σ H x v vl vu lo hi sl Q I rx hs pl pu h
  obtain ⟨m, hh, a, rh, ra, q⟩ := h
  cases a with
  | tup xs =>
    have q : LQ M m H Q (.tup (Py.cut xs lo hi)) hh := q
    obtain ⟨p, vs, rfl, e1, e2⟩ := ra
    have el := e2.len
    have ee : ∀ n d o, HT.sIx n d o = Py.sIx n d o := fun n d o => by cases o <;> rfl
    refine sl_tupA pins s σ H _ v vl vu lo hi sl Q I rx hs pl pu ⟨p, vs, rfl, by rw [hK]; exact e1, fun hw => ?_, fun hw p2 hp2 => ?_⟩
    · refine q.at rh ?_
      rw [cut_whole xs lo hi (by rw [el, ← ee]; exact hw.1) (by rw [el, ← ee]; exact hw.2)]
      exact ⟨p, vs, rfl, e1, e2⟩
    · refine q m (upd H p2 (.tup (cutV vs lo hi))) _ (Ex.refl m) (Kp.upd_new hp2) ?_ ⟨p2, cutV vs lo hi, rfl, .inl (.inl upd_same), (e2.cut lo hi).mono (Kp.upd_new hp2) (Ex.refl m) _ _⟩
      exact ⟨rh.len, fun c o q' e1 e2 => (rh.obj c o q' e1 e2).mono (Kp.upd_new hp2) (Ex.refl m) fun u' e => (upd_ne (ne_of_none e hp2)).trans e, rh.inj⟩
  | ref a =>
    obtain ⟨xs, e0, q⟩ := (show ∃ xs, lstOf hh (.ref a) = some xs ∧ LQ M m H Q (.ref hh.length) (hh ++ [.lst (Py.cut xs lo hi)]) from q)
    obtain ⟨p, vs, rfl, e1, e2⟩ := lstOf_get rh ra e0
    refine sl_list pins s σ H _ v vl vu lo hi sl Q I rx hs pl pu ⟨p, vs, rfl, by rw [hK]; exact e1, ?_⟩
    exact q.new rh rfl fun p2 hp2 => ⟨_, upd_same, (e2.cut lo hi).mono (Kp.upd_new hp2) (Ex.app m p2) _ _⟩
  | str z =>
    obtain ⟨hz, q⟩ := (show z.length ≤ SZ ∧ LQ M m H Q (.str ⟨(Py.cut z.cps.toList lo hi).toArray⟩) hh from q)
    cases (show x = .str z from ra)
    have ee : ∀ n d o, HT.sIx n d o = Py.sIx n d o := fun n d o => by cases o <;> rfl
    have el : z.cps.toList.length = z.length := Array.length_toList
    have e : cutS z lo hi = ⟨(Py.cut z.cps.toList lo hi).toArray⟩ := by
      unfold cutS Py.cut
      rw [el, ee, ee]
    refine sl_str pins s σ H _ v vl vu lo hi sl Q I rx hs pl pu ⟨z, rfl, hz, ?_⟩
    rw [e]
    exact q.at rh rfl
  | _ => exact (show False from q).elim
end
/-- a tuple laid -/
theorem RH.tup {M : Mo} {H : Hp} {m : List Addr} {h : PH} {p : Addr} {u : HO} (r : RH M H m h) (hp : H p = none) : RH M (upd H p u) m h :=
  ⟨r.len, fun c o q' e1 e2 => (r.obj c o q' e1 e2).mono (Kp.upd_new hp) (Ex.refl m) fun u' e => (upd_ne (ne_of_none e hp)).trans e, r.inj⟩

/-! ### built-in functions -/
def rF (M : Mo) (f : BF) : List V → Hp → VK → Prop := fun ws H Q => ∃ m h vs, RH M H m h ∧ RVs M.K H m vs ws ∧ bfV f vs h (LQ M m H Q)
theorem RVs.one_of {K : PySem.W.Frag} {H : Hp} {m : List Addr} {x : PV} {ws : List V} (h : RVs K H m [x] ws) : ∃ w, ws = [w] ∧ RV K H m x w := by
  obtain ⟨w, r, rfl, a, b⟩ := h
  cases (show r = [] from b)
  exact ⟨w, rfl, a⟩
theorem RVs.two_of {K : PySem.W.Frag} {H : Hp} {m : List Addr} {x y : PV} {ws : List V} (h : RVs K H m [x, y] ws) : ∃ w z, ws = [w, z] ∧ RV K H m x w ∧ RV K H m y z := by
  obtain ⟨w, r, rfl, a, b⟩ := h
  obtain ⟨z, rfl, c⟩ := b.one_of
  exact ⟨w, z, rfl, a, c⟩
/-- a built-in type of a value -/
theorem tyN_of {M : Mo} {H : Hp} {m : List Addr} {h : PH} {v : PV} {w : V} {t : String} (r : RH M H m h) (rv : RV M.K H m v w) (e : tyN h v = some t) : TyX M.K H w (.type t) := by
  cases v with
  | non => cases e; cases (show w = .non from rv); exact .base .non
  | bl b => cases e; cases (show w = .bl b from rv); exact .base (.bl b)
  | int b => cases e; cases (show w = .int b from rv); exact .base (.int b)
  | str b => cases e; cases (show w = .str b from rv); exact .base (.str b)
  | tup xs =>
    cases e
    obtain ⟨p, vs, rfl, e1, e2⟩ := rv
    rcases e1 with (e1 | ⟨o, e1⟩) | ⟨o, its, n, e1, e3, _⟩
    · exact .base (.tup e1)
    · exact .fTuple e1
    · exact .kTuple e1 e3
  | ref a =>
    obtain ⟨p, e1, rfl⟩ := rv
    unfold tyN at e
    dsimp only at e
    split at e
    · rename_i xs e2
      cases e
      obtain ⟨vs, e3, _⟩ := r.obj _ _ _ e2 e1
      exact .base (.lst e3)
    · rename_i xs e2
      cases e
      obtain ⟨vs, e3, _⟩ := r.obj _ _ _ e2 e1
      rcases e3 with ⟨o, e3⟩ | ⟨o, its, n, e3, e4, _⟩
      · exact .base (.frz e3)
      · exact .kList e3 e4
    · rename_i xs e2
      cases e
      obtain ⟨vs, e3, _⟩ := r.obj _ _ _ e2 e1
      exact .base (.dK e3)
    · cases e
theorem isB_kit {K : PySem.W.Frag} {T t : String} (hT : T = "int" ∨ T = "bool" ∨ T = "str" ∨ T = "list" ∨ T = "tuple") (ht : t = "NoneType" ∨ t = "bool" ∨ t = "int" ∨ t = "str" ∨ t = "tuple" ∨ t = "list" ∨ t = "dict") :
    PySem.W.kitOne K (.type t) (.type T) = some (isB T t) := by
  rcases hT with rfl | rfl | rfl | rfl | rfl <;> rcases ht with rfl | rfl | rfl | rfl | rfl | rfl | rfl <;> exact kit_ty (by decide +kernel)
theorem tyN_in {h : PH} {v : PV} {t : String} (e : tyN h v = some t) : t = "NoneType" ∨ t = "bool" ∨ t = "int" ∨ t = "str" ∨ t = "tuple" ∨ t = "list" ∨ t = "dict" := by
  unfold tyN at e
  split at e
  · cases e; simp
  · cases e; simp
  · cases e; simp
  · cases e; simp
  · cases e; simp
  · split at e
    · cases e; simp
    · cases e; simp
    · cases e; simp
    · cases e
section
variable {M : Mo} {X : Cx}
/-- isinstance(x, T) by values -/
theorem sIsi (hK : X.K = M.K) {T : String} (hT : T = "int" ∨ T = "bool" ∨ T = "str" ∨ T = "list" ∨ T = "tuple") :
    CallR X (.builtin "isinstance") (fun ws H Q => ∃ m h v w t, RH M H m h ∧ ws = [w, .ty T] ∧ RV M.K H m v w ∧ tyN h v = some t ∧ Q (.bl (isB T t)) H) := by
  intro pins s σ H xs us Q I r h
  obtain ⟨m, h, v, w, t, rh, rfl, rv, e, q⟩ := h
  exact call_isi pins s σ H _ us Q I r ⟨w, .ty T, .type t, .type T, isB T t, rfl, .ty T, by rw [hK]; exact tyN_of rh rv e, isB_kit hT (tyN_in e), q⟩
theorem sLen (hK : X.K = M.K) : CallR X (.builtin "len") (rF M .len) := by
  intro pins s σ H xs us Q I r h
  obtain ⟨m, h, vs, rh, rv, q⟩ := h
  unfold bfV at q
  split at q
  · obtain ⟨w, rfl, rw_⟩ := rv.one_of
    cases (show w = .str _ from rw_)
    exact call_len_str pins s σ H _ us Q I r ⟨_, rfl, q.1, q.2.at rh rfl⟩
  · obtain ⟨ys, e, q⟩ := q
    obtain ⟨w, rfl, rw_⟩ := rv.one_of
    obtain ⟨p, zs, rfl, e1, e2⟩ := seqOf_get rh rw_ e
    refine call_len_seq pins s σ H _ us Q I r ⟨p, zs, rfl, by rw [hK]; exact e1, ?_⟩
    rw [← e2.len]
    exact q.at rh rfl
  all_goals first | exact q.elim | (rename_i h0; cases h0)
theorem sList1 (hK : X.K = M.K) : CallR X (.type "list") (rF M .list1) := by
  intro pins s σ H xs us Q I r h
  obtain ⟨m, h, vs, rh, rv, q⟩ := h
  match vs, q with
  | [v], q =>
    obtain ⟨ys, e, q⟩ := (show ∃ xs, seqOf h v = some xs ∧ LQ M m H Q (.ref h.length) (h ++ [.lst xs]) from q)
    obtain ⟨w, rfl, rw_⟩ := rv.one_of
    obtain ⟨p, zs, rfl, e1, e2⟩ := seqOf_get rh rw_ e
    refine call_list_of pins s σ H _ us Q I r ⟨p, zs, rfl, by rw [hK]; exact e1, ?_⟩
    exact q.new rh rfl fun p2 hp2 => ⟨_, upd_same, e2.mono (Kp.upd_new hp2) (Ex.app m p2) _ _⟩
  | [], q => exact (show False from q).elim
  | _ :: _ :: _, q => exact (show False from q).elim
theorem sTuple1 (hK : X.K = M.K) : CallR X (.type "tuple") (rF M .tuple1) := by
  intro pins s σ H xs us Q I r h
  obtain ⟨m, h, vs, rh, rv, q⟩ := h
  have main : ∀ (v : PV) (ys : List PV) (w : V), RV M.K H m v w → xs = [w] → (v = .tup ys ∨ lstOf h v = some ys) → LQ M m H Q (.tup ys) h → wpAny (model X.prog X.w) X.A (call (.type "tuple") us) (EP X pins σ Q) X.xe s := by
    intro v ys w rw_ hx e q
    subst hx
    rcases e with e | e
    · subst e
      obtain ⟨p, zs, rfl, e1, e2⟩ := rw_
      exact call_tuple_of pins s σ H _ us Q I r ⟨p, zs, rfl, .inr ⟨by rw [hK]; exact e1, q.at rh ⟨p, zs, rfl, e1, e2⟩⟩⟩
    · obtain ⟨p, zs, rfl, e1, e2⟩ := lstOf_get rh rw_ e
      refine call_tuple_of pins s σ H _ us Q I r ⟨p, zs, rfl, .inl ⟨by rw [hK]; exact e1, fun l hl => ?_⟩⟩
      exact q m (upd H l (.tup zs)) _ (Ex.refl m) (Kp.upd_new hl) (rh.tup hl) ⟨l, zs, rfl, .inl (.inl upd_same), e2.mono (Kp.upd_new hl) (Ex.refl m) _ _⟩
  match vs, q with
  | [.tup ys], q =>
    obtain ⟨w, hx, rw_⟩ := rv.one_of
    exact main _ ys w rw_ hx (.inl rfl) q
  | [.ref a], q =>
    obtain ⟨ys, e, q⟩ := (show ∃ xs, lstOf h (.ref a) = some xs ∧ LQ M m H Q (.tup xs) h from q)
    obtain ⟨w, hx, rw_⟩ := rv.one_of
    exact main _ ys w rw_ hx (.inr e) q
  | [.non], q => obtain ⟨ys, e, q⟩ := (show ∃ xs, lstOf h .non = some xs ∧ LQ M m H Q (.tup xs) h from q); cases e
  | [.bl b], q => obtain ⟨ys, e, q⟩ := (show ∃ xs, lstOf h (.bl b) = some xs ∧ LQ M m H Q (.tup xs) h from q); cases e
  | [.int b], q => obtain ⟨ys, e, q⟩ := (show ∃ xs, lstOf h (.int b) = some xs ∧ LQ M m H Q (.tup xs) h from q); cases e
  | [.str b], q => obtain ⟨ys, e, q⟩ := (show ∃ xs, lstOf h (.str b) = some xs ∧ LQ M m H Q (.tup xs) h from q); cases e
  | [], q => exact (show False from q).elim
  | a :: _ :: _, q => cases a <;> exact (show False from q).elim
theorem sMin2 (hc : X.calm = true) : CallR X (.builtin "min") (rF M .min2) := by
  intro pins s σ H xs us Q I r h
  obtain ⟨m, h, vs, rh, rv, q⟩ := h
  unfold bfV at q
  split at q
  all_goals first | (rename_i h0; cases h0; done) | skip
  · obtain ⟨w, z, rfl, r1, r2⟩ := rv.two_of
    cases (show w = .int _ from r1); cases (show z = .int _ from r2)
    exact call_min2 hc pins s σ H _ us Q I r ⟨_, _, rfl, q.at rh rfl⟩
  · exact q.elim
theorem sMax2 (hc : X.calm = true) : CallR X (.builtin "max") (rF M .max2) := by
  intro pins s σ H xs us Q I r h
  obtain ⟨m, h, vs, rh, rv, q⟩ := h
  unfold bfV at q
  split at q
  all_goals first | (rename_i h0; cases h0; done) | skip
  · obtain ⟨w, z, rfl, r1, r2⟩ := rv.two_of
    cases (show w = .int _ from r1); cases (show z = .int _ from r2)
    exact call_max2 hc pins s σ H _ us Q I r ⟨_, _, rfl, q.at rh rfl⟩
  · exact q.elim
theorem sAbs : CallR X (.builtin "abs") (rF M .abs) := by
  intro pins s σ H xs us Q I r h
  obtain ⟨m, h, vs, rh, rv, q⟩ := h
  unfold bfV at q
  split at q
  all_goals first | (rename_i h0; cases h0; done) | skip
  · obtain ⟨w, rfl, r1⟩ := rv.one_of
    cases (show w = .int _ from r1)
    exact call_abs pins s σ H _ us Q I r ⟨_, rfl, q.at rh rfl⟩
  · exact q.elim
theorem RVs.ints {K : PySem.W.Frag} {H : Hp} {m : List Addr} : ∀ {ns : List Int} {vs : List V}, RVs K H m (ns.map PV.int) vs → vs = ns.map V.int
  | [], vs, h => h
  | n :: ns, vs, h => by
    obtain ⟨v, r, rfl, a, b⟩ := h
    cases (show v = .int n from a)
    rw [RVs.ints b]; rfl
theorem RVs.bls {K : PySem.W.Frag} {H : Hp} {m : List Addr} : ∀ {ns : List Bool} {vs : List V}, RVs K H m (ns.map PV.bl) vs → vs = ns.map V.bl
  | [], vs, h => h
  | n :: ns, vs, h => by
    obtain ⟨v, r, rfl, a, b⟩ := h
    cases (show v = .bl n from a)
    rw [RVs.bls b]; rfl
theorem RVs.strs {K : PySem.W.Frag} {H : Hp} {m : List Addr} : ∀ {ns : List Str} {vs : List V}, RVs K H m (ns.map PV.str) vs → vs = ns.map V.str
  | [], vs, h => h
  | n :: ns, vs, h => by
    obtain ⟨v, r, rfl, a, b⟩ := h
    cases (show v = .str n from a)
    rw [RVs.strs b]; rfl
theorem RVs.of_strs {K : PySem.W.Frag} {H : Hp} {m : List Addr} : ∀ {ns : List Str}, RVs K H m (ns.map PV.str) (ns.map V.str)
  | [] => rfl
  | n :: ns => ⟨.str n, ns.map V.str, rfl, rfl, RVs.of_strs⟩
theorem sSumL (hK : X.K = M.K) (hc : X.calm = true) : CallR X (.builtin "sum") (rF M .sumL) := by
  intro pins s σ H xs us Q I r h
  obtain ⟨m, h, vs, rh, rv, q⟩ := h
  unfold bfV at q
  split at q
  all_goals first | (rename_i h0; cases h0; done) | skip
  · obtain ⟨ns, e, q⟩ := q
    obtain ⟨w, rfl, rw_⟩ := rv.one_of
    obtain ⟨p, zs, rfl, e1, e2⟩ := lstOf_get rh rw_ e
    cases e2.ints
    exact cr_sum hc pins s σ H _ us Q I r ⟨p, ns, rfl, by rw [hK]; exact e1, q.at rh rfl⟩
  · exact q.elim
theorem sMaxL (hK : X.K = M.K) (hc : X.calm = true) : CallR X (.builtin "max") (rF M .maxL) := by
  intro pins s σ H xs us Q I r h
  obtain ⟨m, h, vs, rh, rv, q⟩ := h
  unfold bfV at q
  split at q
  all_goals first | (rename_i h0; cases h0; done) | skip
  · obtain ⟨ns, mx, e, hm, hb, q⟩ := q
    obtain ⟨w, rfl, rw_⟩ := rv.one_of
    obtain ⟨p, zs, rfl, e1, e2⟩ := lstOf_get rh rw_ e
    cases e2.ints
    refine cr_max hc pins s σ H _ us Q I r ⟨p, ns, rfl, by rw [hK]; exact e1, List.length_pos_of_mem hm, fun m' hm' hb' => ?_⟩
    rw [Int.le_antisymm (hb m' hm') (hb' mx hm)]
    exact q.at rh rfl
  · exact q.elim
theorem sMinL (hK : X.K = M.K) (hc : X.calm = true) : CallR X (.builtin "min") (rF M .minL) := by
  intro pins s σ H xs us Q I r h
  obtain ⟨m, h, vs, rh, rv, q⟩ := h
  unfold bfV at q
  split at q
  all_goals first | (rename_i h0; cases h0; done) | skip
  · obtain ⟨ns, mx, e, hm, hb, q⟩ := q
    obtain ⟨w, rfl, rw_⟩ := rv.one_of
    obtain ⟨p, zs, rfl, e1, e2⟩ := lstOf_get rh rw_ e
    cases e2.ints
    refine cr_min hc pins s σ H _ us Q I r ⟨p, ns, rfl, by rw [hK]; exact e1, List.length_pos_of_mem hm, fun m' hm' hb' => ?_⟩
    rw [Int.le_antisymm (hb' mx hm) (hb m' hm')]
    exact q.at rh rfl
  · exact q.elim
theorem sAll1 (hK : X.K = M.K) (hc : X.calm = true) : CallR X (.builtin "all") (rF M .all1) := by
  intro pins s σ H xs us Q I r h
  obtain ⟨m, h, vs, rh, rv, q⟩ := h
  unfold bfV at q
  split at q
  all_goals first | (rename_i h0; cases h0; done) | skip
  · obtain ⟨ns, e, q⟩ := q
    obtain ⟨w, rfl, rw_⟩ := rv.one_of
    obtain ⟨p, zs, rfl, e1, e2⟩ := lstOf_get rh rw_ e
    cases e2.bls
    exact cr_all hc pins s σ H _ us Q I r ⟨p, ns, rfl, by rw [hK]; exact e1, q.at rh rfl⟩
  · exact q.elim
theorem sInt1 : CallR X (.type "int") (rF M .int1) := by
  intro pins s σ H xs us Q I r h
  obtain ⟨m, h, vs, rh, rv, q⟩ := h
  unfold bfV at q
  split at q
  all_goals first | (rename_i h0; cases h0; done) | skip
  · obtain ⟨w, rfl, r1⟩ := rv.one_of
    cases (show w = .int _ from r1)
    exact call_int1 pins s σ H _ us Q I r (.inl ⟨_, rfl, q.at rh rfl⟩)
  · obtain ⟨w, rfl, r1⟩ := rv.one_of
    cases (show w = .bl _ from r1)
    exact call_int1 pins s σ H _ us Q I r (.inr ⟨_, rfl, q.at rh rfl⟩)
  · exact q.elim
theorem sStr1 : CallR X (.type "str") (rF M .str1) := by
  intro pins s σ H xs us Q I r h
  obtain ⟨m, h, vs, rh, rv, q⟩ := h
  unfold bfV at q
  split at q
  all_goals first | (rename_i h0; cases h0; done) | skip
  · obtain ⟨w, rfl, r1⟩ := rv.one_of
    cases (show w = .int _ from r1)
    exact call_str_int pins s σ H _ us Q I r ⟨_, rfl, q.1, q.2.at rh rfl⟩
  · obtain ⟨w, rfl, r1⟩ := rv.one_of
    cases (show w = .str _ from r1)
    exact SkE.call_str_str pins s σ H _ us Q I r ⟨_, rfl, q.at rh rfl⟩
  · exact q.elim
theorem sRepr1 (hK : X.K = M.K) (hg : X.A.guards = some []) (hu : X.A.units + 66 < cLine) : CallR X (.builtin "repr") (rF M .repr1) := by
  intro pins s σ H xs us Q I r h
  obtain ⟨m, h, vs, rh, rv, q⟩ := h
  unfold bfV at q
  split at q
  all_goals first | (rename_i h0; cases h0; done) | skip
  · obtain ⟨w, rfl, r1⟩ := rv.one_of
    cases (show w = .int _ from r1)
    exact call_repr_int pins s σ H _ us Q I r ⟨_, rfl, q.1, q.2.at rh rfl⟩
  · obtain ⟨w, rfl, r1⟩ := rv.one_of
    cases (show w = .non from r1)
    exact call_repr_none pins s σ H _ us Q I r ⟨rfl, q.at rh rfl⟩
  · obtain ⟨d, n, q1, q2, q3, q4, q⟩ := q
    obtain ⟨w, rfl, r1⟩ := rv.one_of
    have dp := Dat.dp rh d _ w q1 r1
    obtain ⟨p, rfl⟩ := isRef_of n r1
    exact call_repr hg hu pins s σ H _ us Q I r ⟨p, d, rfl, by rw [hK]; exact dp, q2, q3, q4, q.at rh rfl⟩
  · exact q.elim
end
end Py

set_option Elab.async false
set_option linter.all false
set_option maxRecDepth 100000
set_option maxHeartbeats 4000000
/-! PySound3: expressions. -/
namespace Py
open PySem PySem.Spec PyProof.Rows L2

/-! ### the match of our syntax with the text's -/
abbrev Sco := List (Str × NameKind)
def glB (sc : Sco) (x : Str) : Bool := (match sc.lookup x with
  | some .globalImplicit => true
  | _ => false) && !(x == ("__debug__" : Str))
def visB (sc : Sco) (x : Str) : Bool := match sc.lookup x with
  | some .local => true
  | some .cell => true
  | some .free => true
  | _ => false
def bopB (o : BO) (p : Operator) : Bool := decide (bopOf o = p)
def bfNm : BF → Str
  | .len => "len" | .list1 => "list" | .tuple1 => "tuple" | .tuple0 => "tuple" | .min2 => "min" | .max2 => "max" | .minL => "min" | .maxL => "max" | .sumL => "sum" | .abs => "abs" | .int1 => "int" | .str1 => "str" | .repr1 => "repr"
  | .sorted1 => "sorted" | .all1 => "all" | .dict1 => "dict" | .dict0 => "dict" | _ => "isinstance"
def isTyB : BF → Bool
  | .isInt => true | .isBool => true | .isStr => true | .isList => true | .isTuple => true | _ => false
def plainT : Expr → Bool
  | .BoolOp .. => false
  | .UnaryOp .Not _ _ => false
  | .Compare .. => false
  | .NamedExpr .. => false
  | .IfExp .. => false
  | _ => true
def locB (dc : Bool) (sc : Sco) (x : Str) : Bool := match sc.lookup x with
  | some .local => true
  | some .cell => dc
  | _ => false
def notSet : Expr → Bool
  | .Set .. => false
  | _ => true
def baseB : Expr → Bool
  | .Call (.Name _ _) [] [] _ => false
  | _ => true
def bmNm : BM → Str
  | .append => "append" | .extend => "extend" | .pop0 => "pop" | .pop1 => "pop" | .insert => "insert" | .reverse => "reverse" | .clear => "clear" | .index => "index" | .get1 => "get" | .get2 => "get" | .join => "join" | .split => "split" | .startswith => "startswith" | .update => "update" | .isalnum => "isalnum" | .upper => "upper"
/-- a built-in method that is read here, by its number of arguments -/
def bmB : BM → Nat → Bool
  | .append, 1 => true
  | .extend, 1 => true
  | .pop0, 0 => true
  | .reverse, 0 => true
  | .clear, 0 => true
  | .pop1, 1 => true
  | .join, 1 => true
  | .split, 1 => true
  | .startswith, 1 => true
  | .isalnum, 0 => true
  | .upper, 0 => true
  | _, _ => false
mutual
/-- names alone -/
def tnB : T → Bool
  | .nm _ => true
  | .tup ts => tnsB ts
  | _ => false
def tnsB : Ts → Bool
  | .nil => true
  | .cons t ts => tnB t && tnsB ts
end
def relB (scope : Scope) (sc : Sco) : Sco := scope.names.map fun (n, k) => if (k == .free && (sc.lookup n) == some .cell) then (n, .cell) else (n, k)
def ownOf (N : List Str) (t : T) : List (Str × Nat) := (tNs t).map fun i => (N.getD i "", i)
def blkB (N : List Str) (sc : Sco) (scope : Scope) (own : List (Str × Nat)) : Bool := blkC N { scope with names := sc } scope own
def kwB (M : Me) (c : Nat) (kn : Str) : Bool := match M.G.cls c with
  | some cd => (match M.G.fn cd.init with
    | some d => decide (d.kw.map M.nm = some kn)
    | none => false)
  | none => false
mutual
def mE (M : Me) (N : List Str) (sc : Sco) : E → Expr → Bool
  | .var i, .Name x _ => decide (N[i]? = some x) && visB sc x && !(x == ("__debug__" : Str)) && !(x == ("__classdict__" : Str))
  | .int i, .Constant (.int j) _ _ => decide (i = j)
  | .str s, .Constant (.str t) _ _ => decide (s = t)
  | .bl b, .Constant (.bool c) _ _ => decide (b = c)
  | .non, .Constant .none _ _ => true
  | .glob g, .Name x _ => decide (M.nm g = x) && glB sc x
  | .bin o a b, .BinOp x p y _ => bopB o p && mE M N sc a x && mE M N sc b y
  | .neg a, .UnaryOp .USub x _ => mE M N sc a x
  | .nt a, .UnaryOp .Not x _ => mE M N sc a x
  | .and a b, .BoolOp .And (x :: y :: r) p => mE M N sc a x && (match r with
    | [] => mE M N sc b y
    | _ => mE M N sc b (.BoolOp .And (y :: r) p))
  | .or a b, .BoolOp .Or (x :: y :: r) p => mE M N sc a x && (match r with
    | [] => mE M N sc b y
    | _ => mE M N sc b (.BoolOp .Or (y :: r) p))
  | .cmp o a b, .Compare x [p] [y] _ => decide (copOf o = p) && !behindInMarks p y && mE M N sc a x && mE M N sc b y
  | .chain o o' a b c, .Compare x [p, p'] [y, z] _ => decide (copOf o = p) && decide (copOf o' = p') && !lastMarks [p, p'] [y, z] && mE M N sc a x && mE M N sc b y && mE M N sc c z
  | .ite c a b, .IfExp x y z _ => mC M N sc c x && mE M N sc a y && mE M N sc b z
  | .tup es, .Tuple xs _ _ => mEs M N sc es xs
  | .lst es, .List xs _ => mEs M N sc es xs
  | .idx a b, .Subscript x y _ => mE M N sc a x && mE M N sc b y
  | .slc a lo hi, .Subscript x (.Slice l u none _) _ => mE M N sc a x && mO M N sc lo l && mO M N sc hi u
  | .call f es, .Call (.Name x _) xs [] _ => (M.gf f && (M.G.fn f).isSome) && (decide (M.nm f = x) && (glB sc x && mEs M N sc es xs))
  | .isi f a, .Call (.Name x _) [y, .Name t _] [] _ => (isTyB f && glB sc x) && ((decide (bfNm f = x) && decide (t = Str.ofString (tyOf f))) && (glB sc t && mE M N sc a y))
  | .bf f (.cons e r), .Call (.Name x _) xs [] _ => (!isTyB f && glB sc x) && (decide (bfNm f = x) && mEs M N sc (.cons e r) xs)
  | .attr a f, .Attribute x y _ => (decide (M.nm f = y) && baseB x) && mE M N sc a x
  | .mk c es, .Call (.Name x _) xs [] _ => (M.G.cls c).isSome && (decide (M.nm c = x) && (glB sc x && mEs M N sc es xs))
  | .mkK c es e, .Call (.Name x _) xs [⟨some kn, y, _⟩] _ => (((M.G.cls c).isSome && kwB M c kn) && (decide (M.nm c = x) && !xs.isEmpty)) && (glB sc x && (mEs M N sc es xs && mE M N sc e y))
  | .dicl ks vs, .Dict keys xs _ => (keys.all (·.isSome) && (decide (keys.length = xs.length) && (!keys.isEmpty && decide (keys.length ≤ 15)))) && mPs M N sc ks vs keys xs
  | .slr a, .Subscript x (.Slice none none (some (.UnaryOp .USub (.Constant (.int j) _ _) _)) _) _ => decide (j = 1) && mE M N sc a x
  | .dic0, .Dict [] [] _ => true
  | .dget o a b, .Call (.Attribute y x p) [z, w] [] q => (decide (x = ("get" : Str)) && (p.endLine == q.line)) && (baseB y && (mE M N sc o y && (mE M N sc a z && mE M N sc b w)))
  | .meth o m es, .Call (.Attribute y x p) xs [] q => (decide (M.nm m = x) && ((p.endLine == q.line) && decide (xs.length < 30))) && (baseB y && (mE M N sc o y && mEs M N sc es xs))
  | .bm f o es, .Call (.Attribute y x p) xs [] q => (bmB f xs.length && (decide (bmNm f = x) && (p.endLine == q.line))) && (baseB y && (mE M N sc o y && mEs M N sc es xs))
  | .lc elt t it cond, .ListComp x [⟨tg, iter, ifs, ia⟩] scope _ => ((ia == 0) && (tnB t && blkB N sc scope (ownOf N t))) && (mI M N sc tg it iter && (mT M false N (relB scope sc) t tg && (mOC M N (relB scope sc) cond ifs && mE M N (relB scope sc) elt x)))
  | _, _ => false
def mEs (M : Me) (N : List Str) (sc : Sco) : Es → List Expr → Bool
  | .nil, [] => true
  | .cons e es, x :: xs => mE M N sc e x && mEs M N sc es xs
  | _, _ => false
def mPs (M : Me) (N : List Str) (sc : Sco) : List Str → Es → List (Option Expr) → List Expr → Bool
  | [], .nil, [], [] => true
  | k :: ks, .cons e es, some (.Constant (.str t) _ _) :: kx, x :: xs => (decide (k = t) && mE M N sc e x) && mPs M N sc ks es kx xs
  | _, _, _, _ => false
def mO (M : Me) (N : List Str) (sc : Sco) : OE → Option Expr → Bool
  | .no, none => true
  | .so e, some x => mE M N sc e x
  | _, _ => false
def mC (M : Me) (N : List Str) (sc : Sco) : C → Expr → Bool
  | .v e, x => mE M N sc e x && plainT x
  | .cmp o a b, .Compare x [p] [y] _ => decide (copOf o = p) && !behindInMarks p y && mE M N sc a x && mE M N sc b y
  | .chain o o' a b c, .Compare x [p, p'] [y, z] _ => decide (copOf o = p) && decide (copOf o' = p') && !lastMarks [p, p'] [y, z] && mE M N sc a x && mE M N sc b y && mE M N sc c z
  | .nt a, .UnaryOp .Not x _ => mC M N sc a x
  | .and a b, .BoolOp .And (x :: y :: r) p => mC M N sc a x && (match r with
    | [] => mC M N sc b y
    | _ => mC M N sc b (.BoolOp .And (y :: r) p))
  | .or a b, .BoolOp .Or (x :: y :: r) p => mC M N sc a x && (match r with
    | [] => mC M N sc b y
    | _ => mC M N sc b (.BoolOp .Or (y :: r) p))
  | _, _ => false
def mOC (M : Me) (N : List Str) (sc : Sco) : OC → List Expr → Bool
  | .no, [] => true
  | .so c, [x] => mC M N sc c x
  | _, _ => false
def mI (M : Me) (N : List Str) (sc : Sco) (tg : Expr) : I → Expr → Bool
  | .rng1 a, .Call (.Name x _) [y] [] _ => (decide (x = ("range" : Str)) && glB sc x) && mE M N sc a y
  | .rng2 a b, .Call (.Name x _) [y, z] [] _ => (decide (x = ("range" : Str)) && glB sc x) && (mE M N sc a y && mE M N sc b z)
  | .enu a, .Call (.Name x _) [y] [] _ => (decide (x = ("enumerate" : Str)) && glB sc x) && (mE M N sc a y && (match tg with
    | .Tuple .. => true
    | _ => false))
  | .zip2 a b, .Call (.Name x _) [y, z] [] _ => (decide (x = ("zip" : Str)) && glB sc x) && ((mE M N sc a y && mE M N sc b z) && (match tg with
    | .Tuple .. => true
    | _ => false))
  | .rev a, .Call (.Name x _) [y] [] _ => (decide (x = ("reversed" : Str)) && glB sc x) && mE M N sc a y
  | .seq a, x => mE M N sc a x && notSet x
  | _, _ => false
def mT (M : Me) (dc : Bool) (N : List Str) (sc : Sco) : T → Expr → Bool
  | .nm i, .Name x _ => decide (N[i]? = some x) && locB dc sc x
  | .tup ts, .Tuple xs _ _ => mTs M dc N sc ts xs
  | _, _ => false
def mTs (M : Me) (dc : Bool) (N : List Str) (sc : Sco) : Ts → List Expr → Bool
  | .nil, [] => true
  | .cons t ts, x :: xs => mT M dc N sc t x && mTs M dc N sc ts xs
  | _, _ => false
end

/-! ### the context -/
def LE (M : Mo) (E : XK) (m : List Addr) (H : Hp) : KX := fun x h' => ∀ (m' : List Addr) (H' : Hp) (cls : Value) (d : Option Addr), Ex m m' → Kp M.K H H' → RH M H' m' h' → RX M H' m' x cls d → E cls d H'
/-- a def's promise, by our reading of its call -/
def spF (M : Mo) (k : Nat) (f : Nat) (np : Nat) : Sp := fun vs H Q E => ∃ m h args, RH M H m h ∧ RVs M.K H m args vs ∧ args.length = np ∧ callS M.G k (.fn f) args h (LQ M m H Q) (LE M E m H)
def bltNames : List Str := ["len", "list", "tuple", "isinstance", "int", "str", "bool", "min", "max", "sum", "abs", "repr", "sorted", "all", "dict", "range", "enumerate", "zip", "reversed", "set"]
structure Glo (M : Mo) (mg : Str → Option Value) : Prop where
  free : ∀ x ∈ bltNames, mg x = none
  con : ∀ g v, M.G.con g = some v → ∃ u w, mg (M.nm g) = some u ∧ RelV w u ∧ ∀ H m, RV M.K H m v w
/-- the arguments that lack -/
def Dfl (M : Mo) (fd : FuncData) (ps : List Str) (d : FD) : Prop := ∀ n, n ≤ d.np → (fill d.dfl (List.replicate n PV.non) d.np).length = d.np →
  ∃ dvs ds, Vals dvs ds ∧ Binds M.K fd ps ds ∧ ∀ H m, RVs M.K H m (d.dfl.drop (d.dfl.length - (d.np - n))) dvs
/-- the last argument handed in by its keyword -/
def Kwd (M : Mo) (fd : FuncData) (ps : List Str) (d : FD) : Prop := ∀ x, d.kw = some x → ∀ n, n + 1 ≤ d.np → d.np - 1 - n ≤ d.dfl.length - 1 →
  ∃ (g : List Value → List Value → List Value) (gV : List V → List V → List V) (mid : List V), KBn M.K fd ps n [M.nm x] g gV ∧ (∀ vs z, vs.length = n → gV vs [z] = vs ++ mid ++ [z]) ∧ ∀ H m, RVs M.K H m (d.dfl.dropLast.drop (d.dfl.length - 1 - (d.np - 1 - n))) mid
/-- a def at a level -/
structure FnC (M : Mo) (P : Program) (w : World) (mg : Str → Option Value) (base : Heap) (k : Nat) (f : Nat) (d : FD) (a : Addr) : Prop where
  ex : ∃ fd ps, FnG P w M.K mg base (L2.CX P w) k a fd ps (spF M k f d.np) ∧ (PySem.W.keepIn M.K (.ref a) = true ∧ Kwd M fd ps d) ∧ Dfl M fd ps d
/-- a class of the text -/
structure ClsOk (M : Mo) (mg : Str → Option Value) (c : Nat) (cd : CD) : Prop where
  cls : Cls M.K (M.ca c)
  noat : ∀ f ∈ cd.fields, NoAttr M.K (M.ca c) (M.nm f)
  inj : ∀ f ∈ cd.fields, ∀ g ∈ cd.fields, M.nm f = M.nm g → f = g
  meth : ∀ m f, getM m cd.meths = some f → Meth M.K (M.ca c) (M.nm m) (M.fa f) ∧ M.nm m ∉ cd.fields.map M.nm ∧ (M.G.fn f).isSome = true
  mak : Mk M.K (M.ca c) (M.fa cd.init)
  ini : (M.G.fn cd.init).isSome = true
  glob : mg (M.nm c) = some (.ref (M.ca c))
structure Good (M : Mo) (X : Cx) (N : List Str) (sc : Sco) (W : WX) (k : Nat) : Prop where
  hN : X.N = N
  nd : N.Nodup
  hK : X.K = M.K
  sc : X.env.scope.names = sc
  calm : X.calm = true
  tk : Takes X W
  room : Room k X.A
  gd : X.A.guards = some []
  kd : X.env.scope.kind = .function
  glo : Glo M X.mg
  fns : ∀ j, j ≤ k → ∀ f d, M.G.fn f = some d → FnC M X.prog X.w X.mg X.base j f d (M.fa f)
  cls : ∀ c cd, M.G.cls c = some cd → ClsOk M X.mg c cd
  fng : ∀ f, M.gf f = true → X.mg (M.nm f) = some (.ref (M.fa f))

/-! ### readings -/
abbrev De := KX → Loc → PH → KQ → Prop
def tE (M : Mo) (W : WX) (d : De) : TE := fun σ H Q => ∃ m l h, RH M H m h ∧ RL M.K H m l σ ∧ d (LX M W σ m H) l h (LQ M m H Q)
abbrev DA := KX → Loc → PH → (List PV → PH → Prop) → Prop
def tA (M : Mo) (W : WX) (d : DA) : TA := fun σ H Q => ∃ m l h, RH M H m h ∧ RL M.K H m l σ ∧ d (LX M W σ m H) l h (LA M m H Q)
abbrev DT := KX → Loc → PH → (Bool → PH → Prop) → Prop
def tT (M : Mo) (W : WX) (d : DT) : TT := fun σ H Q => ∃ m l h, RH M H m h ∧ RL M.K H m l σ ∧ d (LX M W σ m H) l h (LB M m H Q)
abbrev DO := KX → Loc → PH → (Option Int → PH → Prop) → Prop
def tOp (M : Mo) (W : WX) (d : DO) : TO := fun σ H Q => ∃ m l h, RH M H m h ∧ RL M.K H m l σ ∧ d (LX M W σ m H) l h (LB M m H Q)
theorem _root_.L2.PE.wk {X : Cx} {e : Expr} {t t' : TE} (p : PE X e t) (h : ∀ σ H Q, t' σ H Q → t σ H Q) : PE X e t' := ⟨fun pins s σ H Q I q => p.run pins s σ H Q I (h _ _ _ q)⟩
theorem _root_.L2.PT.wk {X : Cx} {e : Expr} {t t' : TT} (p : PT X e t) (h : ∀ σ H Q, t' σ H Q → t σ H Q) : PT X e t' := ⟨fun pins s σ H Q I q => p.run pins s σ H Q I (h _ _ _ q)⟩
theorem _root_.L2.PW.wk {X : Cx} {e : Expr} {t t' : TT} (p : PW X e t) (h : ∀ σ H Q, t' σ H Q → t σ H Q) : PW X e t' := ⟨fun wh pins s σ H Q I q => p.run wh pins s σ H Q I (h _ _ _ q)⟩
theorem _root_.L2.PA.wk {X : Cx} {e : List Expr} {t t' : TA} (p : PA X e t) (h : ∀ σ H Q, t' σ H Q → t σ H Q) : PA X e t' := ⟨fun pos pins s σ H Q I q => p.run pos pins s σ H Q I (h _ _ _ q)⟩
theorem _root_.L2.PO.wk {X : Cx} {e : Option Expr} {t t' : TO} (p : L2.PO X e t) (h : ∀ σ H Q, t' σ H Q → t σ H Q) : L2.PO X e t' := ⟨fun pins s σ H Q I q => p.run pins s σ H Q I (h _ _ _ q)⟩
section
variable {M : Mo} {W : WX} {σ : L2.St} {m : List Addr} {H : Hp} {l : Loc} {h : PH} {k : Nat}
theorem csle (M : Mo) (k : Nat) : CSle (callS M.G k) (callS M.G k) := callS_le k k (Nat.le_refl k)
theorem tE_in {e : E} {X0 : KX} {K0 : KQ} {Q' : VK} (rh : RH M H m h) (rl : RL M.K H m l σ) (hX : ∀ x h, X0 x h → LX M W σ m H x h) (q : evE M.G (callS M.G k) X0 e l h K0)
    (c : ∀ (m1 : List Addr) (H1 : Hp) (v : PV) (w : V) (h1 : PH), Ex m m1 → Kp M.K H H1 → RH M H1 m1 h1 → RL M.K H1 m1 l σ → RV M.K H1 m1 v w → K0 v h1 → Q' w H1) : tE M W (fun X => evE M.G (callS M.G k) X e) σ H Q' :=
  ⟨m, l, h, rh, rl, evE_mono (csle M k) hX e l h _ _ (fun v h1 q1 m1 H1 w e1 k1 rh1 rv1 => c m1 H1 v w h1 e1 k1 rh1 (rl.mono k1 e1) rv1 q1) q⟩
theorem tA_in {e : Es} {X0 : KX} {K0 : List PV → PH → Prop} {Q' : List V → Hp → Prop} (rh : RH M H m h) (rl : RL M.K H m l σ) (hX : ∀ x h, X0 x h → LX M W σ m H x h) (q : evEs M.G (callS M.G k) X0 e l h K0)
    (c : ∀ (m1 : List Addr) (H1 : Hp) (v : List PV) (w : List V) (h1 : PH), Ex m m1 → Kp M.K H H1 → RH M H1 m1 h1 → RL M.K H1 m1 l σ → RVs M.K H1 m1 v w → K0 v h1 → Q' w H1) : tA M W (fun X => evEs M.G (callS M.G k) X e) σ H Q' :=
  ⟨m, l, h, rh, rl, evEs_mono (csle M k) hX e l h _ _ (fun v h1 q1 m1 H1 w e1 k1 rh1 rv1 => c m1 H1 v w h1 e1 k1 rh1 (rl.mono k1 e1) rv1 q1) q⟩
theorem tT_in {e : C} {X0 : KX} {K0 : Bool → PH → Prop} {Q' : Bool → Hp → Prop} (rh : RH M H m h) (rl : RL M.K H m l σ) (hX : ∀ x h, X0 x h → LX M W σ m H x h) (q : evT M.G (callS M.G k) X0 e l h K0)
    (c : ∀ (m1 : List Addr) (H1 : Hp) (b : Bool) (h1 : PH), Ex m m1 → Kp M.K H H1 → RH M H1 m1 h1 → RL M.K H1 m1 l σ → K0 b h1 → Q' b H1) : tT M W (fun X => evT M.G (callS M.G k) X e) σ H Q' :=
  ⟨m, l, h, rh, rl, evT_mono (csle M k) hX e l h _ _ (fun v h1 q1 m1 H1 e1 k1 rh1 => c m1 H1 v h1 e1 k1 rh1 (rl.mono k1 e1) q1) q⟩
theorem tO_in {e : OE} {X0 : KX} {K0 : Option Int → PH → Prop} {Q' : Option Int → Hp → Prop} (rh : RH M H m h) (rl : RL M.K H m l σ) (hX : ∀ x h, X0 x h → LX M W σ m H x h) (q : evO M.G (callS M.G k) X0 e l h K0)
    (c : ∀ (m1 : List Addr) (H1 : Hp) (b : Option Int) (h1 : PH), Ex m m1 → Kp M.K H H1 → RH M H1 m1 h1 → RL M.K H1 m1 l σ → K0 b h1 → Q' b H1) : tOp M W (fun X => evO M.G (callS M.G k) X e) σ H Q' :=
  ⟨m, l, h, rh, rl, evO_mono (csle M k) hX e l h _ _ (fun v h1 q1 m1 H1 e1 k1 rh1 => c m1 H1 v h1 e1 k1 rh1 (rl.mono k1 e1) q1) q⟩
end
/-- no star -/
theorem star_of {M : Mo} {N : List Str} {sc : Sco} {e : E} {x : Expr} (h : mE M.toMe N sc e x = true) (env : Env) (r : List Expr) : starEach (x :: r) env = (false, eval x env) :: starEach r env := by
  cases x <;> first | rfl | (cases e <;> first | exact absurd h Bool.false_ne_true | (rename_i args _ _; cases args <;> exact absurd h Bool.false_ne_true) | (rename_i args _ _ _ _; cases args <;> exact absurd h Bool.false_ne_true) | simp [mE] at h)
theorem plainIx_of {M : Mo} {N : List Str} {sc : Sco} {e : E} {x : Expr} (h : mE M.toMe N sc e x = true) : PlainIx x := by
  cases x <;> first | (intro o i; rfl) | (cases e <;> first | exact absurd h Bool.false_ne_true | simp [mE] at h)
theorem star_plain {M : Mo} {N : List Str} {sc : Sco} (env : Env) (pos : Pos) : ∀ {es : Es} {xs : List Expr}, mEs M.toMe N sc es xs = true → (backTo pos (starEach xs env)).any (·.1) = false
  | .nil, [], _ => rfl
  | .nil, _ :: _, h => absurd h Bool.false_ne_true
  | .cons _ _, [], h => absurd h Bool.false_ne_true
  | .cons e es, x :: xs, h => by
    obtain ⟨h1, h2⟩ := Bool.and_eq_true_iff.mp (show (mE M.toMe N sc e x && mEs M.toMe N sc es xs) = true from h)
    rw [star_of h1]
    show (false || (backTo pos (starEach xs env)).any (·.1)) = false
    rw [Bool.false_or]
    exact star_plain env pos h2

theorem star_plain2 {M : Mo} {N : List Str} {sc : Sco} (env : Env) (pos : Pos) {es : Es} {x : Expr} {xs : List Expr} (h : mEs M.toMe N sc es (x :: xs) = true) : starEach (x :: xs) env = (false, eval x env) :: starEach xs env ∧ (backTo pos (starEach xs env)).any (·.1) = false := by
  cases es with
  | nil => exact absurd h Bool.false_ne_true
  | cons e es =>
    obtain ⟨h1, h2⟩ := Bool.and_eq_true_iff.mp (show (mE M.toMe N sc e x && mEs M.toMe N sc es xs) = true from h)
    exact ⟨star_of h1 env xs, star_plain env pos h2⟩
/-- f(..) with what lacks -/
theorem pe_callG {M : Mo} {X : Cx} {N : List Str} {sc : Sco} {W : WX} {k f : Nat} {d : FD} {x : Str} {p pos : Pos} {es : Es} {xs : List Expr} {t : TA} (g : Good M X N sc W k) (hf : M.G.fn f = some d) (hx : x = M.nm f) (hgf : M.gf f = true) (hg : Gl X x) (hdb : (x == ("__debug__" : Str)) = false)
    (hm : mEs M.toMe N sc es xs = true) (ha : PA X xs t) (h0 : xs = [] → ∀ σ H Q, t σ H Q → Q [] H) :
    PE X (.Call (.Name x p) xs [] pos) (fun σ H Q => t σ H fun vs H1 => vs.length ≤ d.np ∧ (fill d.dfl (List.replicate vs.length PV.non) d.np).length = d.np ∧
      ∀ dvs, (∀ H m, RVs M.K H m (d.dfl.drop (d.dfl.length - (d.np - vs.length))) dvs) → spF M k f d.np (vs ++ dvs) H1 Q (WE W σ)) := by
  obtain ⟨fd, ps, F, kp, D⟩ := (g.fns k (Nat.le_refl k) f d hf).ex
  have hmg : X.mg x = some (.ref (M.fa f)) := by rw [hx]; exact g.fng f hgf
  have F' : FnG X.prog X.w X.K X.mg X.base (L2.CX X.prog X.w) k (M.fa f) fd ps (spF M k f d.np) := by rw [g.hK]; exact F
  have kp' : PySem.W.keepIn X.K (.ref (M.fa f)) = true := by rw [g.hK]; exact kp.1
  refine ⟨fun pins s σ H Q I h => ?_⟩
  refine wpAny_Call_Name_kw (ld_glob I hg hmg ?_ hdb)
  cases xs with
  | nil =>
    have fin : ∀ (vs : List V) (us : List Value) (H1 : Hp) (s1 : Shared), L2.Inv X pins σ H1 s1 → Vals vs us → (vs.length ≤ d.np ∧ (fill d.dfl (List.replicate vs.length PV.non) d.np).length = d.np ∧
      ∀ dvs, (∀ H m, RVs M.K H m (d.dfl.drop (d.dfl.length - (d.np - vs.length))) dvs) → spF M k f d.np (vs ++ dvs) H1 Q (WE W σ)) → wpAny (model X.prog X.w) X.A (call (.ref (M.fa f)) us) (EP X pins σ Q) X.xe s1 := by
      intro vs us H1 s1 I1 r ⟨q1, q2, q⟩
      obtain ⟨dvs, ds, hd, hb, hr⟩ := D vs.length q1 q2
      exact run_fnG F' g.gd g.room (by rw [g.hK]; exact hb) hd (passAt g.tk σ) I1 r (q dvs hr)
    exact PySem.W.callWith_K0 I.kIn kp' (fin [] [] H s I .nil (h0 rfl _ _ _ h))
  | cons y ys =>
    obtain ⟨h1, h2⟩ := star_plain2 X.env pos hm
    refine PySem.W.callWith_K (h₀ := X.base) I.ok.mod.kin kp' (thn (ha.run pos pins s σ H _ I h) fun us s1 ⟨vs, H1, I1, r, q⟩ => ⟨I1.kIn, ?_⟩) h1 h2
    obtain ⟨q1, q2, q⟩ := q
    obtain ⟨dvs, ds, hd, hb, hr⟩ := D vs.length q1 q2
    exact run_fnG F' g.gd g.room (by rw [g.hK]; exact hb) hd (passAt g.tk σ) I1 r (q dvs hr)

theorem gl_of {M : Mo} {X : Cx} {N : List Str} {sc : Sco} {W : WX} {k : Nat} (g : Good M X N sc W k) {x : Str} (h : glB sc x = true) : Gl X x ∧ (x == ("__debug__" : Str)) = false := by
  obtain ⟨h1, h2⟩ := Bool.and_eq_true_iff.mp h
  refine ⟨?_, by simpa using h2⟩
  show X.env.scope.names.lookup x = some .globalImplicit
  rw [g.sc]
  split at h1
  · assumption
  · cases h1
theorem vis_of {M : Mo} {X : Cx} {N : List Str} {sc : Sco} {W : WX} {k : Nat} (g : Good M X N sc W k) {x : Str} (h : visB sc x = true) : Vis X.env.scope x := by
  unfold visB at h
  unfold Vis
  rw [g.sc]
  split at h
  · rename_i e; exact .inl e
  · rename_i e; exact .inr (.inl e)
  · rename_i e; exact .inr (.inr e)
  · cases h
theorem isTrue_of {M : Mo} {N : List Str} {sc : Sco} {e : E} {x : Expr} {env : Env} (h : mC M.toMe N sc (.v e) x = true) : ∀ whole, isTrue x env whole = (do let v ← whole; standAt x.pos; holding [v] (truthy v)) := by
  obtain ⟨h1, h2⟩ := Bool.and_eq_true_iff.mp (show (mE M.toMe N sc e x && plainT x) = true from h)
  cases x with
  | UnaryOp op a p => cases op <;> first | (intro _; rfl) | exact absurd h2 Bool.false_ne_true
  | _ => first | (intro _; rfl) | exact absurd h2 Bool.false_ne_true
theorem ba {a b : Bool} (h : (a && b) = true) : a = true ∧ b = true := Bool.and_eq_true_iff.mp h
theorem nb {a : Bool} (h : (!a) = true) : a = false := by simpa using h
section
variable {M : Mo}
theorem truV_of {H : Hp} {m : List Addr} {h : PH} {v : PV} {w : V} {b : Bool} (r : RH M H m h) (rv : RV M.K H m v w) (e : truV h v = some b) : TruV M.K w H b := by
  cases v with
  | non => cases (show w = .non from rv); cases e; rfl
  | bl c => cases (show w = .bl c from rv); cases e; rfl
  | int i => cases (show w = .int i from rv); cases e; rfl
  | str s =>
    cases (show w = .str s from rv)
    unfold truV at e
    dsimp only at e
    split at e
    · rename_i hl; cases e; exact ⟨hl, rfl⟩
    · cases e
  | tup xs =>
    obtain ⟨p, vs, rfl, e1, e2⟩ := rv
    cases e
    refine .inr (.inl ⟨vs, e1, ?_⟩)
    have := e2.len
    cases xs <;> cases vs <;> simp_all
  | ref a =>
    obtain ⟨p, e1, rfl⟩ := rv
    unfold truV at e
    dsimp only at e
    have emp : ∀ {xs : List PV} {vs : List V}, RVs M.K H m xs vs → (!xs.isEmpty) = !vs.isEmpty := fun {xs vs} z => by
      have := z.len
      cases xs <;> cases vs <;> simp_all
    split at e
    · rename_i xs e2
      cases e
      obtain ⟨vs, e3, e4⟩ := r.obj _ _ _ e2 e1
      exact .inl ⟨vs, .inl (.inl e3), emp e4⟩
    · rename_i xs e2
      cases e
      obtain ⟨vs, e3, e4⟩ := r.obj _ _ _ e2 e1
      refine .inl ⟨vs, ?_, emp e4⟩
      rcases e3 with ⟨o, e3⟩ | e3
      · exact .inl (.inr ⟨o, e3⟩)
      · exact .inr e3
    · rename_i xs e2
      cases e
      obtain ⟨vs, e3, e4⟩ := r.obj _ _ _ e2 e1
      refine .inr (.inr ⟨vs, e3, ?_⟩)
      cases xs with
      | nil => cases (show vs = [] from e4); rfl
      | cons z zs => obtain ⟨x, y⟩ := z; obtain ⟨a, b, c, rfl, _⟩ := e4; rfl
    · cases e
end

section
variable {M : Mo} {k : Nat}
theorem bf_in (f : BF) (n : isTyB f = false) : bfNm f ∈ bltNames := by cases f <;> first | (unfold bltNames bfNm; simp; done) | (exact absurd n (by decide))
/-- the built-in function by its name -/
theorem sBf {X : Cx} {N : List Str} {sc : Sco} {W : WX} (g : Good M X N sc W k) (f : BF) (n : isTyB f = false) {x : Str} (hx : bfNm f = x) (hg : glB sc x = true) {e : E} {es : Es} {y : Expr} {ys : List Expr} {p pos : Pos} {t : TA}
    (hm : mEs M.toMe N sc (.cons e es) (y :: ys) = true) (ha : PA X (y :: ys) t) : PE X (.Call (.Name x p) (y :: ys) [] pos) (tCB (rF M f) t) := by
  obtain ⟨h1, h2⟩ := star_plain2 X.env pos hm
  obtain ⟨g1, g2⟩ := gl_of g hg
  have fr : X.mg x = none := by rw [← hx]; exact g.glo.free _ (bf_in f n)
  have hnn : x ≠ "__name__" := by rw [← hx]; cases f <;> decide +kernel
  have never : ∀ (v : Value), (∀ ws H Q, ¬ rF M f ws H Q) → CallR X v (rF M f) := fun v hn pins s σ H xs us Q I r q => (hn _ _ _ q).elim
  have no : (∀ vs h Q, ¬ bfV f vs h Q) → ∀ ws H Q, ¬ rF M f ws H Q := fun hn ws H Q ⟨m, h, vs, _, _, q⟩ => hn _ _ _ q
  subst hx
  cases f with
  | len => exact pe_callB (sLen g.hK) g1 fr PySem.boot_len ha hnn g2 h1 h2
  | list1 => exact pe_callTy (sList1 g.hK) g1 fr (by decide +kernel) ha hnn g2 h1 h2
  | tuple1 => exact pe_callTy (sTuple1 g.hK) g1 fr (by decide +kernel) ha hnn g2 h1 h2
  | min2 => exact pe_callB (sMin2 g.calm) g1 fr (by decide +kernel) ha hnn g2 h1 h2
  | max2 => exact pe_callB (sMax2 g.calm) g1 fr (by decide +kernel) ha hnn g2 h1 h2
  | abs => exact pe_callB sAbs g1 fr (by decide +kernel) ha hnn g2 h1 h2
  | isInt => exact absurd n (by decide)
  | isBool => exact absurd n (by decide)
  | isStr => exact absurd n (by decide)
  | isList => exact absurd n (by decide)
  | isTuple => exact absurd n (by decide)
  | tuple0 => exact pe_callTy (T := "tuple") (never _ (no fun vs h Q q => by cases q)) g1 fr (by decide +kernel) ha hnn g2 h1 h2
  | int1 => exact pe_callTy (T := "int") sInt1 g1 fr (by decide +kernel) ha hnn g2 h1 h2
  | str1 => exact pe_callTy (T := "str") sStr1 g1 fr (by decide +kernel) ha hnn g2 h1 h2
  | dict1 => exact pe_callTy (T := "dict") (never _ (no fun vs h Q q => by cases q)) g1 fr (by decide +kernel) ha hnn g2 h1 h2
  | dict0 => exact pe_callTy (T := "dict") (never _ (no fun vs h Q q => by cases q)) g1 fr (by decide +kernel) ha hnn g2 h1 h2
  | minL => exact pe_callB (id := "min") (sMinL g.hK g.calm) g1 fr (by decide +kernel) ha hnn g2 h1 h2
  | maxL => exact pe_callB (id := "max") (sMaxL g.hK g.calm) g1 fr (by decide +kernel) ha hnn g2 h1 h2
  | sumL => exact pe_callB (id := "sum") (sSumL g.hK g.calm) g1 fr (by decide +kernel) ha hnn g2 h1 h2
  | repr1 => exact pe_callB (id := "repr") (sRepr1 g.hK g.gd (by have := g.room.un; omega)) g1 fr (by decide +kernel) ha hnn g2 h1 h2
  | sorted1 => exact pe_callB (id := "sorted") (never _ (no fun vs h Q q => by cases q)) g1 fr (by decide +kernel) ha hnn g2 h1 h2
  | all1 => exact pe_callB (id := "all") (sAll1 g.hK g.calm) g1 fr (by decide +kernel) ha hnn g2 h1 h2
theorem call_sp {f : Nat} {d : FD} {m : List Addr} {H : Hp} {h : PH} {args : List PV} {vs : List V} {Q : VK} {E : XK} (hf : M.G.fn f = some d) (rh : RH M H m h) (rv : RVs M.K H m args vs) (q : callS M.G k (.fn f) args h (LQ M m H Q) (LE M E m H)) :
    vs.length ≤ d.np ∧ (fill d.dfl (List.replicate vs.length PV.non) d.np).length = d.np ∧ ∀ dvs, (∀ H m, RVs M.K H m (d.dfl.drop (d.dfl.length - (d.np - vs.length))) dvs) → spF M k f d.np (vs ++ dvs) H Q E := by
  cases k with
  | zero => exact (show False from q).elim
  | succ k =>
    obtain ⟨d', hf', l1, l2, q⟩ := q
    rw [hf] at hf'; cases hf'
    have el := rv.len
    refine ⟨by rw [← el]; exact l2, by rw [← el]; unfold fill at l1 ⊢; simpa using l1, fun dvs hd => ⟨m, h, fill d.dfl args d.np, rh, ?_, l1, ?_⟩⟩
    · unfold fill
      refine rv.app ?_
      rw [el]
      exact hd H m
    · have e0 : fill d.dfl (fill d.dfl args d.np) d.np = fill d.dfl args d.np := by
        have z : d.np - (fill d.dfl args d.np).length = 0 := by omega
        show fill d.dfl args d.np ++ d.dfl.drop (d.dfl.length - (d.np - (fill d.dfl args d.np).length)) = _
        rw [z]; simp
      exact ⟨d, hf, by rw [e0]; exact l1, Nat.le_of_eq l1, by rw [e0]; exact q⟩
/-- isinstance(x, T) -/
theorem sIsT {X : Cx} {N : List Str} {sc : Sco} {W : WX} (g : Good M X N sc W k) {f : BF} (n : isTyB f = true) {x t : Str} (hx : bfNm f = x) (ht : t = Str.ofString (tyOf f)) (hg : glB sc x = true) (hgt : glB sc t = true) {a : E} {y : Expr} {p pos tp : Pos} (hm : mE M.toMe N sc a y = true)
    (ha : PE X y (tE M W fun Y => evE M.G (callS M.G k) Y a)) : PE X (.Call (.Name x p) [y, .Name t tp] [] pos) (tE M W fun Y => evE M.G (callS M.G k) Y (.isi f a)) := by
  obtain ⟨g1, g2⟩ := gl_of g hg
  obtain ⟨t1, t2⟩ := gl_of g hgt
  have hT : tyOf f = "int" ∨ tyOf f = "bool" ∨ tyOf f = "str" ∨ tyOf f = "list" ∨ tyOf f = "tuple" := by cases f <;> first | exact absurd n (by decide) | (unfold tyOf; simp)
  have fx : x = "isinstance" := by rw [← hx]; cases f <;> first | exact absurd n (by decide) | rfl
  have ft : bootBuiltins t = some (.type (tyOf f)) := by rw [ht]; cases f <;> first | exact absurd n (by decide) | (unfold tyOf; decide +kernel)
  have fm : X.mg t = none := g.glo.free t (by rw [ht]; cases f <;> first | exact absurd n (by decide) | (unfold tyOf bltNames; simp))
  have htn : t ≠ "__name__" := by rw [ht]; cases f <;> first | exact absurd n (by decide) | (unfold tyOf; decide +kernel)
  subst fx
  have pt : PE X (.Name t tp) (tC (.ty (tyOf f))) := pe_bltn t1 fm ft rfl htn t2
  have fi : X.mg "isinstance" = none := g.glo.free _ (by unfold bltNames; simp)
  refine (pe_callB (sIsi (M := M) g.hK hT) g1 fi (by decide +kernel) (pa_cons ha (pa_cons pt pa_nil rfl) (star_of hm X.env _)) (by decide +kernel) g2 (star_of hm X.env _) rfl).wk fun σ H Q q => ?_
  obtain ⟨m, l, h, rh, rl, q⟩ := q
  refine tE_in rh rl (fun _ _ z => z) q fun m1 H1 v w h1 e1 k1 rh1 rl1 rv1 q1 => ?_
  obtain ⟨ty, e, q2⟩ := q1
  exact ⟨m1, h1, v, w, ty, rh1, rfl, rv1, e, (LQ.mono e1 k1 _ _ q2).at rh1 rfl⟩
theorem fill_len {dfl : List PV} {vs : List PV} {n : Nat} : (fill dfl vs n).length = (fill dfl (List.replicate vs.length PV.non) n).length := by
  unfold fill; simp
end
end Py

set_option Elab.async false
set_option linter.all false
set_option maxRecDepth 100000
set_option maxHeartbeats 4000000
/-! PySound4: what loops walk; targets; statements. -/
namespace Py
open PySem PySem.Spec PyProof.Rows L2

theorem _root_.L2.PI.wk {X : Cx} {tg it : Expr} {t t' : TI} (p : PI X tg it t) (h : ∀ σ H R, t' σ H R → t σ H R) : PI X tg it t' := ⟨fun pins s σ H R I q => p.run pins s σ H R I (h _ _ _ q)⟩
theorem _root_.L2.PG.wk {X : Cx} {tg : Expr} {t t' : TG} (p : PG X tg t) (h : ∀ v σ H R, t' v σ H R → t v σ H R) : PG X tg t' := ⟨fun pins s σ H v u R I r q => p.run pins s σ H v u R I r (h _ _ _ _ q)⟩
theorem _root_.L2.PGs.wk {X : Cx} {tg : List Expr} {t t' : TGs} (p : PGs X tg t) (h : ∀ v σ H R, t' v σ H R → t v σ H R) : PGs X tg t' := ⟨fun pins s σ H v u R I r q => p.run pins s σ H v u R I r (h _ _ _ _ q)⟩
theorem _root_.L2.PS.wk {X : Cx} {st : Stmt} {t t' : TS} (p : PS X st t) (h : ∀ D σ H, t' D σ H → t D σ H) : PS X st t' := ⟨fun pins s σ H D I q => p.run pins s σ H D I (h _ _ _ q)⟩
theorem _root_.L2.PSs.wk {X : Cx} {st : List Stmt} {t t' : TS} (p : PSs X st t) (h : ∀ D σ H, t' D σ H → t D σ H) : PSs X st t' := ⟨fun pins s σ H D I q => p.run pins s σ H D I (h _ _ _ q)⟩

/-! ### what a loop walks -/
/-- a walk of the layer that gives these items while live holds -/
structure Wk (M : Mo) (m1 : List Addr) (H1 : Hp) (items : List PV) (live : PH → Prop) (J : It) : Prop where
  ex : ∃ (G : Hp → Prop) (Y : Nat → Hp → V → Hp → Prop), L2.Walk J items.length G Y ∧
    (∀ (m : List Addr) (H : Hp) (h : PH), Ex m1 m → Kp M.K H1 H → RH M H m h → live h → G H) ∧
    (∀ (i : Nat) (m : List Addr) (H : Hp) (h : PH) (x : V) (H' : Hp), Ex m1 m → Kp M.K H1 H → RH M H m h → live h → i < items.length → Y i H x H' → ∃ v, items[i]? = some v ∧ RH M H' m h ∧ Kp M.K H H' ∧ RV M.K H' m v x)
def LI (M : Mo) (m : List Addr) (H : Hp) (R : It → Hp → Prop) : KI := fun items live h1 => ∀ (m1 : List Addr) (H1 : Hp) (J : It), Ex m m1 → Kp M.K H H1 → RH M H1 m1 h1 → Wk M m1 H1 items live J → R J H1
theorem LI.mono {M : Mo} {m m1 : List Addr} {H H1 : Hp} {R : It → Hp → Prop} (e : Ex m m1) (k : Kp M.K H H1) : ∀ a b c, LI M m H R a b c → LI M m1 H1 R a b c := fun a b c q m' H' J e' k' r w => q m' H' J (e.trans e') (k.trans k') r w
abbrev DI := KX → Loc → PH → KI → Prop
def tI (M : Mo) (W : WX) (d : DI) : TI := fun σ H R => ∃ m l h, RH M H m h ∧ RL M.K H m l σ ∧ d (LX M W σ m H) l h (LI M m H R)
theorem RVs.get' {K : PySem.W.Frag} {H : Hp} {m : List Addr} {xs : List PV} {vs : List V} {i : Nat} {x : V} (h : RVs K H m xs vs) (e : vs[i]? = some x) : ∃ v, xs[i]? = some v ∧ RV K H m v x := by
  have h1 := (List.getElem?_eq_some_iff.mp e).1
  rw [← h.len] at h1
  have e2 : xs[i]? = some xs[i] := List.getElem?_eq_getElem h1
  obtain ⟨w, e3, r⟩ := h.get e2
  rw [e] at e3; cases e3
  exact ⟨_, e2, r⟩
theorem lst_ref {h : PH} {v : PV} {xs : List PV} (e : lstOf h v = some xs) : ∃ a, v = .ref a := by
  cases v <;> first | exact ⟨_, rfl⟩ | cases e
/-- a list's live content -/
theorem live_now {M : Mo} {H1 H : Hp} {m1 m : List Addr} {h : PH} {v : PV} {p : Addr} {xs : List PV} (e : Ex m1 m) (k : Kp M.K H1 H) (r : RH M H m h) (hv : RV M.K H1 m1 v (.ref p)) (hr : ∃ a, v = .ref a) (lv : liveL v xs h) : ∃ ws, SqL M.K H p ws ∧ RVs M.K H m xs ws := by
  obtain ⟨a, rfl⟩ := hr
  obtain ⟨p', ws, e1, e2, e3⟩ := lstOf_get r (hv.mono k e _ _) lv
  cases e1
  exact ⟨ws, e2, e3⟩
theorem walk_listG {K : PySem.W.Frag} {a : Addr} {n : Nat} : L2.Walk (Itl K a) n (fun H => ∃ ws, SqL K H a ws ∧ ws.length = n) (fun i H x H' => H' = H ∧ ∀ ws, SqL K H a ws → ws[i]? = some x) :=
  ⟨fun i _ hi ⟨ws, q, e⟩ => ⟨ws, ws[i]'(by rw [e]; exact hi), q, by simp [e, hi]⟩, fun _ ⟨ws, q, e⟩ => ⟨ws, q, Nat.le_of_eq e⟩, fun _ _ _ _ _ _ y => y⟩
theorem walk_enumG {K : PySem.W.Frag} {a : Addr} {n : Nat} : L2.Walk (Ite K a) n (fun H => ∃ ws, SqL K H a ws ∧ ws.length = n) (fun i H v H' => ∃ T x, v = .ref T ∧ H T = none ∧ H' = upd H T (.tup [.int (i : Nat), x]) ∧ ∀ xs, SqL K H a xs → xs[i]? = some x) :=
  ⟨fun i _ hi ⟨ws, q, e⟩ => ⟨ws, ws[i]'(by rw [e]; exact hi), q, by simp [e, hi]⟩, fun _ ⟨ws, q, e⟩ => ⟨ws, q, Nat.le_of_eq e⟩, fun _ _ _ _ _ _ y => y⟩
theorem walk_revG {K : PySem.W.Frag} {a : Addr} {n : Nat} : L2.Walk (Itv K a n) n (fun H => ∃ ws, SqL K H a ws ∧ ws.length = n) (fun i H x H' => H' = H ∧ ∀ ws, SqL K H a ws → ws[n - 1 - i]? = some x) :=
  ⟨fun i _ hi ⟨ws, q, e⟩ => ⟨hi, ws, ws[n - 1 - i]'(by rw [e]; omega), q, by simp [e, show n - 1 - i < n by omega]⟩, fun _ _ => Nat.le_refl _, fun _ _ _ _ _ _ y => y⟩
theorem walk_zipG {K : PySem.W.Frag} {a b : Addr} {n1 n2 : Nat} : L2.Walk (Itz K a b) (min n1 n2) (fun H => (∃ ws, SqL K H a ws ∧ ws.length = n1) ∧ ∃ zs, SqL K H b zs ∧ zs.length = n2)
    (fun i H v H' => ∃ T x y, v = .ref T ∧ H T = none ∧ H' = upd H T (.tup [x, y]) ∧ (∀ xs, SqL K H a xs → xs[i]? = some x) ∧ ∀ ys, SqL K H b ys → ys[i]? = some y) :=
  ⟨fun i _ hi ⟨⟨ws, q, e⟩, zs, q', e'⟩ => ⟨ws, zs, ws[i]'(by rw [e]; omega), zs[i]'(by rw [e']; omega), q, q', by simp [e, show i < n1 by omega], by simp [e', show i < n2 by omega]⟩,
    fun _ ⟨⟨ws, q, e⟩, zs, q', e'⟩ => ⟨ws, zs, q, q', by omega⟩, fun _ _ _ _ _ _ y => y⟩
section
variable {M : Mo} {m1 : List Addr} {H1 : Hp}
theorem wk_list {v : PV} {p : Addr} {xs : List PV} (hv : RV M.K H1 m1 v (.ref p)) (hr : ∃ a, v = .ref a) : Wk M m1 H1 xs (liveL v xs) (Itl M.K p) := by
  refine ⟨_, _, walk_listG, fun m H h e k r lv => ?_, fun i m H h x H' e k r lv hi y => ?_⟩
  · obtain ⟨ws, q, rv⟩ := live_now e k r hv hr lv
    exact ⟨ws, q, rv.len.symm⟩
  · obtain ⟨rfl, y⟩ := y
    obtain ⟨ws, q, rv⟩ := live_now e k r hv hr lv
    obtain ⟨u, e1, e2⟩ := rv.get' (y ws q)
    exact ⟨u, e1, r, Kp.refl _ _, e2⟩
theorem wk_tup {p : Addr} {vs : List V} {xs : List PV} {live : PH → Prop} (h : SqT M.K H1 p vs) (rv : RVs M.K H1 m1 xs vs) : Wk M m1 H1 xs live (Itt M.K p) := by
  refine ⟨_, _, by rw [rv.len]; exact walk_tup (xs := vs), fun m H h' e k r lv => k _ _ h, fun i m H h' x H' e k r lv hi y => ?_⟩
  obtain ⟨rfl, y⟩ := y
  obtain ⟨u, e1, e2⟩ := (rv.mono k e).get' y
  exact ⟨u, e1, r, Kp.refl _ _, e2⟩
theorem wk_str {s : Str} {live : PH → Prop} : Wk M m1 H1 (s.cps.toList.map fun c => .str ⟨#[c]⟩) live (Its s) := by
  refine ⟨_, _, by rw [List.length_map, Array.length_toList]; exact walk_str, fun _ _ _ _ _ _ _ => trivial, fun i m H h' x H' e k r lv hi y => ?_⟩
  obtain ⟨rfl, c, e1, rfl⟩ := y
  exact ⟨.str ⟨#[c]⟩, by rw [List.getElem?_map, Array.getElem?_toList, e1] <;> rfl, r, Kp.refl _ _, rfl⟩
theorem wk_range {lo : Int} {n : Nat} {live : PH → Prop} : Wk M m1 H1 (rangeL lo n) live (Itr lo n) := by
  refine ⟨_, _, by unfold rangeL; rw [List.length_map, List.length_range]; exact walk_range, fun _ _ _ _ _ _ _ => trivial, fun i m H h' x H' e k r lv hi y => ?_⟩
  obtain ⟨rfl, rfl⟩ := y
  have hi' : i < n := by unfold rangeL at hi; simpa using hi
  exact ⟨.int (lo + (i : Nat)), by unfold rangeL; rw [List.getElem?_map, List.getElem?_range hi'] <;> rfl, r, Kp.refl _ _, rfl⟩
theorem enum_get : ∀ (xs : List PV) (n i : Nat), (enumFrom n xs)[i]? = xs[i]?.map fun x => .tup [.int ((n + i : Nat) : Int), x]
  | [], n, i => by simp [enumFrom]
  | x :: r, n, 0 => rfl
  | x :: r, n, i + 1 => by
    show (enumFrom (n + 1) r)[i]? = (r[i]?).map _
    rw [enum_get r (n + 1) i, show n + 1 + i = n + (i + 1) by omega]
theorem enum_len : ∀ (xs : List PV) (n : Nat), (enumFrom n xs).length = xs.length
  | [], _ => rfl
  | x :: r, n => congrArg Nat.succ (enum_len r (n + 1))
theorem zip_len : ∀ (xs ys : List PV), (zipT xs ys).length = min xs.length ys.length
  | [], ys => by simp [zipT]
  | x :: xs, [] => by simp [zipT]
  | x :: xs, y :: ys => by simp [zipT, zip_len xs ys]
theorem zip_get : ∀ (xs ys : List PV) (i : Nat) (x y : PV), xs[i]? = some x → ys[i]? = some y → (zipT xs ys)[i]? = some (.tup [x, y])
  | [], ys, i, x, y, h, _ => by simp at h
  | a :: xs, [], i, x, y, _, h => by simp at h
  | a :: xs, b :: ys, 0, x, y, h1, h2 => by simp at h1 h2; subst h1 h2; rfl
  | a :: xs, b :: ys, i + 1, x, y, h1, h2 => by
    show (zipT xs ys)[i]? = _
    exact zip_get xs ys i x y (by simpa using h1) (by simpa using h2)
theorem wk_enum {v : PV} {p : Addr} {xs : List PV} (hv : RV M.K H1 m1 v (.ref p)) (hr : ∃ a, v = .ref a) : Wk M m1 H1 (enumFrom 0 xs) (liveL v xs) (Ite M.K p) := by
  refine ⟨_, _, by rw [enum_len]; exact walk_enumG, fun m H h e k r lv => ?_, fun i m H h x H' e k r lv hi y => ?_⟩
  · obtain ⟨ws, q, rv⟩ := live_now e k r hv hr lv
    exact ⟨ws, q, rv.len.symm⟩
  · obtain ⟨T, z, rfl, hT, rfl, y⟩ := y
    obtain ⟨ws, q, rv⟩ := live_now e k r hv hr lv
    obtain ⟨u, e1, e2⟩ := rv.get' (y ws q)
    refine ⟨.tup [.int (i : Nat), u], ?_, r.tup hT, Kp.upd_new hT, ⟨T, _, rfl, .inl (.inl upd_same), ⟨_, _, rfl, rfl, RVs.one (e2.mono (Kp.upd_new hT) (Ex.refl m) _ _)⟩⟩⟩
    rw [enum_get, e1, Nat.zero_add] <;> rfl
theorem wk_zip {v u : PV} {p q : Addr} {xs ys : List PV} (hv : RV M.K H1 m1 v (.ref p)) (hr : ∃ a, v = .ref a) (hu : RV M.K H1 m1 u (.ref q)) (hs : ∃ a, u = .ref a) : Wk M m1 H1 (zipT xs ys) (fun h => liveL v xs h ∧ liveL u ys h) (Itz M.K p q) := by
  refine ⟨_, _, by rw [zip_len]; exact walk_zipG, fun m H h e k r lv => ?_, fun i m H h x H' e k r lv hi y => ?_⟩
  · obtain ⟨ws, q1, rv⟩ := live_now e k r hv hr lv.1
    obtain ⟨zs, q2, rz⟩ := live_now e k r hu hs lv.2
    exact ⟨⟨ws, q1, rv.len.symm⟩, zs, q2, rz.len.symm⟩
  · obtain ⟨T, z1, z2, rfl, hT, rfl, y1, y2⟩ := y
    obtain ⟨ws, q1, rv⟩ := live_now e k r hv hr lv.1
    obtain ⟨zs, q2, rz⟩ := live_now e k r hu hs lv.2
    obtain ⟨u1, e1, e2⟩ := rv.get' (y1 ws q1)
    obtain ⟨u2, e3, e4⟩ := rz.get' (y2 zs q2)
    have kk := Kp.upd_new (K := M.K) (o := HO.tup [z1, z2]) hT
    exact ⟨.tup [u1, u2], zip_get xs ys i u1 u2 e1 e3, r.tup hT, kk, ⟨T, _, rfl, .inl (.inl upd_same), ⟨_, _, rfl, e2.mono kk (Ex.refl m) _ _, RVs.one (e4.mono kk (Ex.refl m) _ _)⟩⟩⟩
theorem wk_rev {v : PV} {p : Addr} {xs : List PV} (hv : RV M.K H1 m1 v (.ref p)) (hr : ∃ a, v = .ref a) : Wk M m1 H1 xs.reverse (liveL v xs) (Itv M.K p xs.length) := by
  refine ⟨_, _, by rw [List.length_reverse]; exact walk_revG, fun m H h e k r lv => ?_, fun i m H h x H' e k r lv hi y => ?_⟩
  · obtain ⟨ws, q, rv⟩ := live_now e k r hv hr lv
    exact ⟨ws, q, rv.len.symm⟩
  · obtain ⟨rfl, y⟩ := y
    obtain ⟨ws, q, rv⟩ := live_now e k r hv hr lv
    obtain ⟨u, e1, e2⟩ := rv.get' (y ws q)
    rw [List.length_reverse] at hi
    exact ⟨u, by rw [List.getElem?_reverse hi]; exact e1, r, Kp.refl _ _, e2⟩
end
section
variable {X : Cx} {tg : Expr} {pins : List (Addr × Obj)} {σ : L2.St} {s1 : Shared} {H1 : Hp} {R : It → Hp → Prop}
theorem iter_list {a : Addr} {xs : List V} (I1 : L2.Inv X pins σ H1 s1) (hq : SqL X.K H1 a xs) (q : R (Itl X.K a) H1) : wpAny (model X.prog X.w) X.A (pyIter (.ref a)) (PIE X pins σ tg R) X.xe s1 := by
  obtain ⟨its, rv, p, hz⟩ := I1.list hq
  refine wpAny_pyIter_list p.isList ?_
  refine ⟨s1.heap.objs.size, [s1.heap.objs.size], _, _, H1, rfl, I1.kept (t' := s1.toks) fun b o e => Heap.get?_push_of_some _ e, turn_list a _, ⟨_, Heap.get?_push_size _ rfl, rfl, rfl⟩, fun b hb => ?_, q⟩
  have e : b = s1.heap.objs.size := by simpa using hb
  subst e
  exact I1.fpOk (Nat.le_refl _) (I1.hok.fresh (Nat.le_refl _))
theorem iter_tup {a : Addr} {xs : List V} (I1 : L2.Inv X pins σ H1 s1) (hq : SqT X.K H1 a xs) (q : R (Itt X.K a) H1) : wpAny (model X.prog X.w) X.A (pyIter (.ref a)) (PIE X pins σ tg R) X.xe s1 := by
  obtain ⟨its, rv, p, hz⟩ := I1.tuple hq
  refine wpAny_pyIter_tuple (show s1.heap.IsTuple a its.toArray from p) ?_
  refine ⟨s1.heap.objs.size, [s1.heap.objs.size], _, _, H1, rfl, I1.kept (t' := s1.toks) fun b o e => Heap.get?_push_of_some _ e, turn_tuple a _, ⟨_, Heap.get?_push_size _ rfl, rfl, rfl⟩, fun b hb => ?_, q⟩
  have e : b = s1.heap.objs.size := by simpa using hb
  subst e
  exact I1.fpOk (Nat.le_refl _) (I1.hok.fresh (Nat.le_refl _))
theorem iter_str {x : Str} {t : Tok} (I1 : L2.Inv X pins σ H1 s1) (q : R (Its x) H1) : wpAny (model X.prog X.w) X.A (pyIter (.str x t)) (PIE X pins σ tg R) X.xe s1 := by
  cases ha : x.cps.all (· < 128)
  · exact wpAny_pyIter_wide ha (pi_one (tk := s1.toks) I1 _ (turn_str _ x t "str_iterator" (.inr rfl)) ⟨_, Heap.get?_push_size _ rfl, rfl, rfl⟩ q)
  · exact wpAny_pyIter_ascii ha (pi_one (tk := s1.toks) I1 _ (turn_str _ x t "str_ascii_iterator" (.inl rfl)) ⟨_, Heap.get?_push_size _ rfl, rfl, rfl⟩ q)
end
/-- for .. in a value -/
theorem pi_seq {M : Mo} {X : Cx} {N : List Str} {sc : Sco} {W : WX} {k : Nat} (g : Good M X N sc W k) {tg e : Expr} {a : E} (he : PE X e (tE M W fun Y => evE M.G (callS M.G k) Y a)) : PI X tg e (tI M W fun Y => evI M.G (callS M.G k) Y (.seq a)) := by
  refine ⟨fun pins s σ H R I h => ?_⟩
  obtain ⟨m, l, hh, rh, rl, q⟩ := h
  refine thn (he.run pins s σ H (fun x H1 => ∃ m1 h1 v xs, Ex m m1 ∧ Kp M.K H H1 ∧ RH M H1 m1 h1 ∧ RV M.K H1 m1 v x ∧ itemsOf h1 v = some xs ∧ LI M m1 H1 R xs (liveL v xs) h1) I (tE_in rh rl (fun _ _ z => z) q fun m1 H1 v w h1 e1 k1 rh1 rl1 rv1 ⟨xs, q1, q2⟩ => ⟨m1, h1, v, xs, e1, k1, rh1, rv1, q1, LI.mono e1 k1 _ _ _ q2⟩)) fun u s1 ⟨x, H1, I1, r1, q1⟩ => ?_
  obtain ⟨m1, h1, v, xs, e1, k1, rh1, rv, ei, q2⟩ := q1
  have go : ∀ J, Wk M m1 H1 xs (liveL v xs) J → R J H1 := fun J wk => q2 m1 H1 J (Ex.refl m1) (Kp.refl _ H1) rh1 wk
  cases v with
  | str z =>
    cases (show x = .str z from rv)
    obtain ⟨t, rfl⟩ := r1
    cases ei
    exact iter_str I1 (go _ wk_str)
  | tup zs =>
    obtain ⟨p, vs, rfl, e2, e3⟩ := rv
    cases r1
    cases ei
    exact iter_tup I1 (xs := vs) (by rw [g.hK]; exact e2) (by rw [g.hK]; exact go _ (wk_tup e2 e3))
  | ref b =>
    have e2 : lstOf h1 (.ref b) = some xs := ei
    obtain ⟨p, vs, rfl, e3, e4⟩ := lstOf_get rh1 rv e2
    cases r1
    exact iter_list I1 (xs := vs) (by rw [g.hK]; exact e3) (by rw [g.hK]; exact go _ (wk_list rv ⟨b, rfl⟩))
  | non => cases ei
  | bl _ => cases ei
  | int _ => cases ei

end Py

set_option Elab.async false
set_option linter.all false
set_option maxRecDepth 100000
set_option maxHeartbeats 4000000
/-! PySound5: expressions, what loops walk, targets. -/
namespace Py
open PySem PySem.Spec PyProof.Rows L2
section
variable {M : Mo} {k : Nat}
def LG (M : Mo) (m : List Addr) (H : Hp) (Q : L2.St → Hp → Prop) : Loc → PH → Prop := fun l' h' => ∀ (m' : List Addr) (H' : Hp) (σ' : L2.St), Ex m m' → Kp M.K H H' → RH M H' m' h' → RL M.K H' m' l' σ' → Q σ' H'
def tG (M : Mo) (d : PV → Loc → PH → (Loc → PH → Prop) → Prop) : TG := fun w σ H Q => ∃ m l h v, RH M H m h ∧ RL M.K H m l σ ∧ RV M.K H m v w ∧ d v l h (LG M m H Q)
def tGs (M : Mo) (d : List PV → Loc → PH → (Loc → PH → Prop) → Prop) : TGs := fun w σ H Q => ∃ m l h v, RH M H m h ∧ RL M.K H m l σ ∧ RVs M.K H m v w ∧ d v l h (LG M m H Q)
theorem LG.mono {m m1 : List Addr} {H H1 : Hp} {Q : L2.St → Hp → Prop} (e : Ex m m1) (k : Kp M.K H H1) : ∀ a b, LG M m H Q a b → LG M m1 H1 Q a b := fun a b q m' H' σ' e' k' r rl => q m' H' σ' (e.trans e') (k.trans k') r rl
theorem loc_of {dc : Bool} {X : Cx} {N : List Str} {sc : Sco} {W : WX} (g : Good M X N sc W k) (hc : dc = true → ∀ x, sc.lookup x = some .cell → X.fn x = true) {x : Str} (h : locB dc sc x = true) : L2.Loc X.env.scope x ∧ (X.fn x = true ∨ X.env.scope.names.lookup x = some .local) := by
  unfold locB at h
  unfold L2.Loc
  rw [g.sc]
  split at h
  · rename_i e; exact ⟨.inl e, .inr e⟩
  · rename_i e; exact ⟨.inr e, .inl (hc h x e)⟩
  · cases h
theorem RL.set {K : PySem.W.Frag} {H : Hp} {m : List Addr} {l : Py.Loc} {σ : L2.St} {i : Nat} {v : PV} {w : V} (r : RL K H m l σ) (rv : RV K H m v w) : RL K H m (l.set i (some v)) (σ.set i (some w)) := by
  refine ⟨by simp [r.1], fun j u e => ?_⟩
  by_cases h : j = i
  · subst h
    have hl := (List.getElem?_eq_some_iff.mp e).1
    rw [List.length_set] at hl
    rw [List.getElem?_set_self hl] at e
    cases e
    exact ⟨w, List.getElem?_set_self (by rw [← r.1]; exact hl), rv⟩
  · rw [List.getElem?_set_ne (Ne.symm h)] at e
    obtain ⟨z, e2, e3⟩ := r.2 j u e
    exact ⟨z, by rw [List.getElem?_set_ne (Ne.symm h)]; exact e2, e3⟩
theorem as_each {dc : Bool} {N : List Str} {sc : Sco} {t : T} {x : Expr} (h : mT M.toMe dc N sc t x = true) (env : Env) (r : List Expr) : assignEach (x :: r) env = (false, assign x env) :: assignEach r env := by
  cases x <;> first | rfl | (cases t <;> exact absurd h Bool.false_ne_true)
theorem as_len {dc : Bool} {N : List Str} {sc : Sco} (env : Env) : ∀ {ts : Ts} {xs : List Expr}, mTs M.toMe dc N sc ts xs = true → (assignEach xs env).length = xs.length ∧ (assignEach xs env).findIdx? (·.1) = none
  | .nil, [], _ => ⟨rfl, rfl⟩
  | .nil, _ :: _, h => absurd h Bool.false_ne_true
  | .cons _ _, [], h => absurd h Bool.false_ne_true
  | .cons t ts, x :: xs, h => by
    obtain ⟨h1, h2⟩ := ba h
    obtain ⟨e1, e2⟩ := as_len env h2
    rw [as_each h1 env]
    exact ⟨congrArg Nat.succ e1, by rw [List.findIdx?_cons, e2] <;> rfl⟩
theorem lenTs_of {dc : Bool} {N : List Str} {sc : Sco} : ∀ {ts : Ts} {xs : List Expr}, mTs M.toMe dc N sc ts xs = true → lenTs ts = xs.length
  | .nil, [], _ => rfl
  | .nil, _ :: _, h => absurd h Bool.false_ne_true
  | .cons _ _, [], h => absurd h Bool.false_ne_true
  | .cons t ts, x :: xs, h => congrArg Nat.succ (lenTs_of (ba h).2)

/-! ### names forgotten -/
theorem wipe_set {σ : L2.St} {i : Nat} {x : V} : ∀ {vs : List Nat}, i ∈ vs → wipe (σ.set i (some x)) vs = wipe σ vs
  | v :: vs, h => by
    by_cases hi : i ∈ vs
    · show (wipe (σ.set i (some x)) vs).set v none = (wipe σ vs).set v none
      rw [wipe_set hi]
    · have e : i = v := by
        rcases List.mem_cons.mp h with e | e
        · exact e
        · exact absurd e hi
      subst e
      have : ∀ (vs : List Nat) (σ : L2.St), i ∉ vs → wipe (σ.set i (some x)) vs = (wipe σ vs).set i (some x) := by
        intro vs
        induction vs with
        | nil => intro σ _; rfl
        | cons w r ih =>
          intro σ hn
          show (wipe (σ.set i (some x)) r).set w none = ((wipe σ r).set w none).set i (some x)
          rw [ih σ (fun z => hn (List.mem_cons_of_mem _ z)), List.set_comm _ _ (show i ≠ w from fun z => hn (by rw [z]; exact List.mem_cons_self ..))]
      show (wipe (σ.set i (some x)) vs).set i none = (wipe σ vs).set i none
      rw [this vs σ hi, List.set_set]
theorem wipe_none {σ : L2.St} {i : Nat} : ∀ {vs : List Nat}, i ∈ vs → (L2.wipe σ vs).set i none = L2.wipe σ vs
  | v :: vs, h => by
    show ((L2.wipe σ vs).set v none).set i none = (L2.wipe σ vs).set v none
    by_cases e : i = v
    · subst e; rw [List.set_set]
    · rw [List.set_comm _ _ (Ne.symm e), wipe_none ((List.mem_cons.mp h).resolve_left e)]
theorem wipe_sub {σ : L2.St} {vs : List Nat} : ∀ {ws : List Nat}, (∀ i ∈ ws, i ∈ vs) → L2.wipe (L2.wipe σ vs) ws = L2.wipe σ vs
  | [], _ => rfl
  | w :: ws, h => by
    show (L2.wipe (L2.wipe σ vs) ws).set w none = _
    rw [wipe_sub (fun i hi => h i (List.mem_cons_of_mem _ hi)), wipe_none (h w (List.mem_cons_self ..))]
theorem wipe_wipe {σ : L2.St} {vs : List Nat} : L2.wipe (L2.wipe σ vs) vs = L2.wipe σ vs := wipe_sub fun _ h => h
theorem RL.wipe {K : PySem.W.Frag} {H : Hp} {m : List Addr} {l : Py.Loc} {σ : L2.St} (r : RL K H m l σ) : ∀ vs : List Nat, RL K H m (wipeL l vs) (L2.wipe σ vs)
  | [] => r
  | v :: vs => by
    have ih := r.wipe vs
    refine ⟨by show ((wipeL l vs).set v none).length = ((L2.wipe σ vs).set v none).length; simp [ih.1], fun j u e => ?_⟩
    have e : ((wipeL l vs).set v none)[j]? = some (some u) := e
    by_cases h : j = v
    · subst h
      rw [List.getElem?_set] at e
      simp at e
    · rw [List.getElem?_set_ne (Ne.symm h)] at e
      obtain ⟨z, e2, e3⟩ := ih.2 j u e
      exact ⟨z, by show ((L2.wipe σ vs).set v none)[j]? = _; rw [List.getElem?_set_ne (Ne.symm h)]; exact e2, e3⟩
/-- a target of names: what is set is forgotten by vs -/
def LGn (M : Mo) (m : List Addr) (H : Hp) (vs : List Nat) (σ : L2.St) (Q : L2.St → Hp → Prop) : Py.Loc → PH → Prop := fun l' h' => ∀ (m' : List Addr) (H' : Hp) (σ' : L2.St), Ex m m' → Kp M.K H H' → RH M H' m' h' → RL M.K H' m' l' σ' → L2.wipe σ' vs = L2.wipe σ vs → Q σ' H'
def tGn (M : Mo) (vs : List Nat) (d : PV → Py.Loc → PH → (Py.Loc → PH → Prop) → Prop) : TG := fun w σ H Q => ∃ m l h v, RH M H m h ∧ RL M.K H m l σ ∧ RV M.K H m v w ∧ d v l h (LGn M m H vs σ Q)
def tGns (M : Mo) (vs : List Nat) (d : List PV → Py.Loc → PH → (Py.Loc → PH → Prop) → Prop) : TGs := fun w σ H Q => ∃ m l h v, RH M H m h ∧ RL M.K H m l σ ∧ RVs M.K H m v w ∧ d v l h (LGn M m H vs σ Q)
mutual
theorem sGn : ∀ (t : T) (X : Cx) (N : List Str) (sc : Sco) (W : WX) (Y : KX) (x : Expr) (vs : List Nat), Good M X N sc W k → tnB t = true → (∀ i ∈ tNs t, i ∈ vs) → mT M.toMe false N sc t x = true → PG X x (tGn M vs fun v => evG M.G (callS M.G k) Y t v)
  | .nm i, X, N, sc, W, Y, x, vs, g, ht, hv, hm => by
    cases x <;> first | exact absurd hm Bool.false_ne_true | skip
    obtain ⟨h1, h2⟩ := ba hm
    obtain ⟨l1, l2⟩ := loc_of g (fun z => absurd z Bool.false_ne_true) h2
    refine (pg_name (i := i) (by rw [g.hN]; exact g.nd) (by rw [g.hN]; exact of_decide_eq_true h1) l1 l2).wk fun w σ H Q q => ?_
    obtain ⟨m, l, h, v, rh, rl, rv, q⟩ := q
    exact q.2 m H _ (Ex.refl m) (Kp.refl _ H) rh (rl.set rv) (wipe_set (hv i (List.mem_singleton.mpr rfl)))
  | .tup ts, X, N, sc, W, Y, x, vs, g, ht, hv, hm => by
    cases x <;> first | exact absurd hm Bool.false_ne_true | skip
    rename_i xs kk pos
    have hm : mTs M.toMe false N sc ts xs = true := hm
    obtain ⟨a1, a2⟩ := as_len X.env hm
    refine (pg_tup (n := xs.length) g.calm (sGns ts X N sc W Y xs vs g ht hv hm) a1 a2).wk fun w σ H Q q => ?_
    obtain ⟨m, l, h, v, rh, rl, rv, zs, rfl, el, q⟩ := q
    obtain ⟨p, ws, rfl, e1, e2⟩ := rv
    exact ⟨p, ws, rfl, by rw [g.hK]; exact e1, by rw [← e2.len, el]; exact lenTs_of hm, m, l, h, zs, rh, rl, e2, q⟩
  | .attr _ _, X, N, sc, W, Y, x, vs, g, ht, hv, hm => absurd ht Bool.false_ne_true
  | .sub _ _, X, N, sc, W, Y, x, vs, g, ht, hv, hm => absurd ht Bool.false_ne_true
theorem sGns : ∀ (ts : Ts) (X : Cx) (N : List Str) (sc : Sco) (W : WX) (Y : KX) (xs : List Expr) (vs : List Nat), Good M X N sc W k → tnsB ts = true → (∀ i ∈ tsNs ts, i ∈ vs) → mTs M.toMe false N sc ts xs = true → PGs X xs (tGns M vs fun v => evGs M.G (callS M.G k) Y ts v)
  | .nil, X, N, sc, W, Y, [], vs, g, ht, hv, hm => pgs_nil.wk fun w σ H Q q => by
    obtain ⟨m, l, h, v, rh, rl, rv, e, q⟩ := q
    subst e
    exact ⟨rv, q m H σ (Ex.refl m) (Kp.refl _ H) rh rl rfl⟩
  | .nil, X, N, sc, W, Y, _ :: _, vs, g, ht, hv, hm => absurd hm Bool.false_ne_true
  | .cons _ _, X, N, sc, W, Y, [], vs, g, ht, hv, hm => absurd hm Bool.false_ne_true
  | .cons t ts, X, N, sc, W, Y, x :: xs, vs, g, ht, hv, hm => by
    obtain ⟨h1, h2⟩ := ba hm
    obtain ⟨t1, t2⟩ := ba (show (tnB t && tnsB ts) = true from ht)
    refine (pgs_cons (sGn t X N sc W Y x vs g t1 (fun i hi => hv i (List.mem_append_left _ hi)) h1) (sGns ts X N sc W Y xs vs g t2 (fun i hi => hv i (List.mem_append_right _ hi)) h2) (by rw [as_each h1 X.env] <;> rfl)).wk fun w σ H Q q => ?_
    obtain ⟨m, l, h, v, rh, rl, rv, y, r, e, q⟩ := q
    subst e
    obtain ⟨w1, wr, rfl, r1, r2⟩ := rv
    refine ⟨w1, wr, rfl, m, l, h, y, rh, rl, r1, evG_mono (csle M k) (fun _ _ z => z) t y l h _ _ (fun l1 h1 q1 m1 H1 σ1 e1 k1 rh1 rl1 w1 => ?_) q⟩
    exact ⟨m1, l1, h1, r, rh1, rl1, r2.mono k1 e1, evGs_mono (csle M k) (fun _ _ z => z) ts r l1 h1 _ _ (fun l2 h2 q2 m2 H2 σ2 e2 k2 rh2 rl2 w2 => q2 m2 H2 σ2 (e1.trans e2) (k1.trans k2) rh2 rl2 (w2.trans w1)) q1⟩
end

/-! ### comprehensions -/
theorem Good.blk {X : Cx} {N : List Str} {sc : Sco} {W : WX} (g : Good M X N sc W k) (s : Shared) (H : Hp) {scope : Scope} (C : Addr) (cl : List (Str × Addr)) (fp : List Addr) (kd : scope.kind = .function) :
    Good M (X.blk s H scope (compEnvC scope cl C X.env) fp) N (relB scope sc) (fun _ _ _ _ => False) k where
  hN := g.hN
  nd := g.nd
  hK := g.hK
  sc := by
    show (relabel scope X.env).names = relB scope sc
    have e : ∀ n : Str, X.env.kindOf n = sc.lookup n := fun n => by show X.env.scope.names.lookup n = _; rw [g.sc]
    have f : (X.env.scope.kind == ScopeKind.function) = true := by rw [g.kd]; rfl
    unfold relabel relB
    simp only [e, f, Bool.and_true]
  calm := g.calm
  tk := fun u s' ⟨_, _, _, _, _, _, _, _, _, _, _, _, _, _, _, _, w⟩ => w.elim
  room := g.room
  gd := g.gd
  kd := kd
  glo := g.glo
  fns := g.fns
  cls := g.cls
  fng := g.fng
theorem blk_ok {X : Cx} {N : List Str} {sc : Sco} {W : WX} (g : Good M X N sc W k) {scope : Scope} {own : List (Str × Nat)} (h : blkB N sc scope own = true) : BlkOk X.N X.env.scope scope own := by
  have ok := blkOk_by h
  refine ⟨ok.kind, ok.uniq, by rw [g.hN]; exact ok.ix, fun y hy e => ?_, by rw [g.hN]; exact ok.own⟩
  rw [g.sc]
  exact ok.free y hy e
theorem own_ix (N : List Str) (t : T) : (ownOf N t).map (·.2) = tNs t := by
  unfold ownOf
  rw [List.map_map]
  exact List.map_id' _
theorem compL_live {live : PH → Prop} {d : Nat} {body : PV → PH → (Option PV → PH → Prop) → Prop} {fin : PH → Prop} : ∀ {xs : List PV} {h : PH}, compL live d body fin xs h → live h
  | [], _, q => q.1
  | _ :: _, _, q => q.1
def tOC (M : Mo) (W : WX) (d : DT) : TT := tT M W d
/-- a comprehension's reading -/
theorem lc_in {elt : E} {t : T} {it : I} {cond : OC} {W : WX} {σ : L2.St} {H : Hp} {Q : VK} (q : tE M W (fun Y => evE M.G (callS M.G k) Y (.lc elt t it cond)) σ H Q) :
    tLc (tI M W fun Y => evI M.G (callS M.G k) Y it) (tGn M (tNs t) fun v => evG M.G (callS M.G k) (fun _ _ => False) t v) (tT M (fun _ _ _ _ => False) fun Y => evC M.G (callS M.G k) Y cond) (tE M (fun _ _ _ _ => False) fun Y => evE M.G (callS M.G k) Y elt) (tNs t) σ H Q := by
  obtain ⟨m, l, h, rh, rl, q⟩ := q
  refine ⟨m, l, h, rh, rl, evI_mono (csle M k) (fun _ _ z => z) it l h _ _ (fun items live h1 cl m1 H1 J e1 k1 rh1 wk D hD => ?_) q⟩
  obtain ⟨G, Y, walk, hG, hY⟩ := wk.ex
  have rl1 := rl.mono k1 e1
  have len1 : m1.length = h1.length := rh1.len
  have kD : Kp M.K H1 (upd H1 D (.lst [])) := Kp.upd_new hD
  have nofalse : ∀ {σ m H} (x : XV) (h : PH), (fun _ _ => False : KX) x h → LX M (fun _ _ _ _ => False) σ m H x h := fun x h z => z.elim
  refine lc_it walk (fun i H' => ∃ m' h', Ex (m1 ++ [D]) m' ∧ Kp M.K (upd H1 D (.lst [])) H' ∧ RH M H' m' h' ∧ compL live h1.length _ _ (items.drop i) h') ⟨m1 ++ [D], _, Ex.refl _, Kp.refl _ _, rh1.new (o := .lst []) hD ⟨[], upd_same, rfl⟩ rfl, cl⟩ ?_ ?_ ?_
  · rintro i H' hi ⟨m', h', ex, kp, rh', c⟩
    exact hG m' H' h' ((Ex.app m1 D).trans ex) (kD.trans kp) rh' (compL_live c)
  · rintro i x H' H2 hi ⟨m', h', ex, kp, rh', c⟩ y
    have exm := (Ex.app m1 D).trans ex
    have kpm := kD.trans kp
    obtain ⟨v, ev, rh2, k2, rv⟩ := hY i m' H' h' x H2 exm kpm rh' (compL_live c) hi y
    have eI : items.drop i = v :: items.drop (i + 1) := by
      obtain ⟨hlt, e⟩ := List.getElem?_eq_some_iff.mp ev
      rw [List.drop_eq_getElem_cons hlt, e]
    rw [eI] at c
    obtain ⟨_, c⟩ := c
    refine ⟨m', wipeL l (tNs t), h', v, rh2, (rl1.mono (kpm.trans k2) exm).wipe (tNs t), rv, evG_mono (csle M k) (fun _ _ z => z) t v _ _ _ _ (fun l3 h3 c m3 H3 σ3 e3 k3 rh3 rl3 w3 => ⟨w3.trans wipe_wipe, ?_⟩) c⟩
    refine ⟨m3, l3, h3, rh3, rl3, evC_mono (csle M k) nofalse cond l3 h3 _ _ (fun b h4 c m4 H4 e4 k4 rh4 => ?_) c⟩
    cases b with
    | false => exact ⟨m4, h4, (ex.trans e3).trans e4, ((kp.trans k2).trans k3).trans k4, rh4, c⟩
    | true =>
      refine ⟨m4, l3, h4, rh4, rl3.mono k4 e4, evE_mono (csle M k) nofalse elt l3 h4 _ _ (fun y h5 c m5 H5 z e5 k5 rh5 rv5 => ?_) c⟩
      obtain ⟨acc, ea, hl, c⟩ := c
      have e15 := ((ex.trans e3).trans e4).trans e5
      have eD : m5[h1.length]? = some D := e15 _ _ (by rw [← len1]; simp)
      obtain ⟨ws, hw, rw_⟩ := rh5.obj _ _ _ ea eD
      have put := rh5.put (u := .lst (ws ++ [z])) (o := .lst (acc ++ [y])) ea eD rfl rfl ⟨ws ++ [z], upd_same, (rw_.app (RVs.one rv5)).mono (Kp.upd_old hw rfl) (Ex.refl m5) _ _⟩
      exact ⟨ws, hw, by rw [← rw_.len]; exact hl, m5, _, e15, ((((kp.trans k2).trans k3).trans k4).trans k5).trans put.2, put.1, c⟩
  · rintro H' ⟨m', h', ex, kp, rh', c⟩
    rw [List.drop_length] at c
    refine c.2 m' H' (.ref D) (e1.trans ((Ex.app m1 D).trans ex)) (k1.trans (kD.trans kp)) rh' ⟨D, ex _ _ (by rw [← len1]; simp), rfl⟩
/-! ### built-in methods -/
def rBmM (M : Mo) (f : BM) : V → List V → Hp → VK → Prop := fun x xs H Q => ∃ m h v vs, RH M H m h ∧ RV M.K H m v x ∧ RVs M.K H m vs xs ∧ bmV f v vs h (LQ M m H Q)
theorem LQ.put {m : List Addr} {H : Hp} {Q : VK} {h : PH} {v : PV} {w : V} {a : Nat} {p : Addr} {u : HO} {o o0 : PO} (q : LQ M m H Q v (h.set a o)) (r : RH M H m h) (e0 : h[a]? = some o0) (ep : m[a]? = some p) (n0 : isFrl o0 = false) (nf : isFrl o = false)
    (ho : Kp M.K H (upd H p u) → RO M (upd H p u) m o p) (rv : Kp M.K H (upd H p u) → RV M.K (upd H p u) m v w) : Q w (upd H p u) := by
  obtain ⟨u0, e3, n3⟩ := (r.obj a o0 p e0 ep).at n0
  have kk : Kp M.K H (upd H p u) := Kp.upd_old e3 n3
  obtain ⟨r2, _⟩ := r.put e0 ep n0 nf (ho kk)
  exact q m (upd H p u) w (Ex.refl m) kk r2 (rv kk)
theorem lst_here {m : List Addr} {H : Hp} {h : PH} {a : Nat} {x : V} {xs : List PV} (rh : RH M H m h) (rv : RV M.K H m (.ref a) x) (e : h[a]? = some (.lst xs)) : ∃ p vs, x = .ref p ∧ m[a]? = some p ∧ H p = some (.lst vs) ∧ RVs M.K H m xs vs := by
  obtain ⟨p, ep, rfl⟩ := rv
  obtain ⟨vs, e1, e2⟩ := rh.obj _ _ _ e ep
  exact ⟨p, vs, rfl, ep, e1, e2⟩
theorem RVs.rev {K : PySem.W.Frag} {H : Hp} {m : List Addr} : ∀ {xs : List PV} {vs : List V}, RVs K H m xs vs → RVs K H m xs.reverse vs.reverse
  | [], vs, h => by cases (show vs = [] from h); rfl
  | x :: xs, vs, h => by
    obtain ⟨v, r, rfl, a, b⟩ := h
    rw [List.reverse_cons, List.reverse_cons]
    exact (RVs.rev b).app (RVs.one a)
theorem RVs.dropLast {K : PySem.W.Frag} {H : Hp} {m : List Addr} {xs : List PV} {vs : List V} (h : RVs K H m xs vs) : RVs K H m xs.dropLast vs.dropLast := by
  rw [List.dropLast_eq_take, List.dropLast_eq_take, h.len]
  exact h.take _
def bmId : BM → String
  | .append => "list.append" | .extend => "list.extend" | .pop0 => "list.pop" | .reverse => "list.reverse" | .clear => "list.clear" | .pop1 => "list.pop" | .join => "str.join" | .split => "str.split" | .startswith => "str.startswith" | .isalnum => "str.isalnum" | .upper => "str.upper" | _ => "list.append"
theorem RVs.erase {K : PySem.W.Frag} {H : Hp} {m : List Addr} : ∀ {xs : List PV} {vs : List V} (i : Nat), RVs K H m xs vs → RVs K H m (xs.eraseIdx i) (vs.eraseIdx i)
  | [], vs, i, h => by cases (show vs = [] from h); rfl
  | x :: xs, vs, 0, h => by obtain ⟨v, r, rfl, a, b⟩ := h; exact b
  | x :: xs, vs, i + 1, h => by obtain ⟨v, r, rfl, a, b⟩ := h; exact ⟨v, _, rfl, a, RVs.erase i b⟩
theorem sBm {X : Cx} (hK : X.K = M.K) (f : BM) (n : Nat) (hb : bmB f n = true) : MtR X (bmId f) (rBmM M f) := by
  intro pins s σ H x xs v us Q I rx rxs h
  obtain ⟨m, h, w, ws, rh, rw_, rws, q⟩ := h
  cases f <;> first | (exfalso; revert hb; unfold bmB; cases n <;> (intro hb; cases hb); done) | skip
  all_goals (unfold bmV at q; split at q)
  all_goals first | exact q.elim | (rename_i h0; cases h0; done) | skip
  · obtain ⟨ys, e, hl, q⟩ := q
    obtain ⟨p, vs, rfl, ep, e1, e2⟩ := lst_here rh rw_ e
    obtain ⟨z, rfl, rz⟩ := rws.one_of
    exact mt_append pins s σ H _ _ v us Q I rx rxs ⟨p, vs, z, rfl, rfl, e1, by rw [← e2.len]; exact hl, q.put rh e ep rfl rfl (fun kk => ⟨_, upd_same, (e2.app (RVs.one rz)).mono kk (Ex.refl m) _ _⟩) (fun _ => rfl)⟩
  · obtain ⟨ys, zs, e, e', hl, q⟩ := q
    obtain ⟨p, vs, rfl, ep, e1, e2⟩ := lst_here rh rw_ e
    obtain ⟨z, rfl, rz⟩ := rws.one_of
    obtain ⟨p', vs', rfl, ep', e3, e4⟩ := lst_here rh rz e'
    exact mt_extend pins s σ H _ _ v us Q I rx rxs ⟨p, p', vs, vs', rfl, rfl, e1, e3, by rw [← e2.len, ← e4.len]; exact hl, q.put rh e ep rfl rfl (fun kk => ⟨_, upd_same, (e2.app e4).mono kk (Ex.refl m) _ _⟩) (fun _ => rfl)⟩
  · obtain ⟨ys, y, e, ey, q⟩ := q
    obtain ⟨p, vs, rfl, ep, e1, e2⟩ := lst_here rh rw_ e
    cases (show xs = [] from rws)
    rw [e2.len] at ey
    obtain ⟨z, ez, rz⟩ := e2.get ey
    exact mt_pop pins s σ H _ _ v us Q I rx rxs ⟨p, vs, z, rfl, rfl, e1, ez, q.put rh e ep rfl rfl (fun kk => ⟨_, upd_same, e2.dropLast.mono kk (Ex.refl m) _ _⟩) (fun kk => rz.mono kk (Ex.refl m) _ _)⟩
  · obtain ⟨ys, j, y, e, hi, hj, ey, q⟩ := q
    obtain ⟨p, vs, rfl, ep, e1, e2⟩ := lst_here rh rw_ e
    obtain ⟨z, rfl, rz⟩ := rws.one_of
    cases (show z = .int _ from rz)
    rw [e2.len] at hj
    obtain ⟨z, ez, rz⟩ := e2.get ey
    exact mt_popAt pins s σ H _ _ v us Q I rx rxs ⟨p, vs, _, j, z, rfl, rfl, e1, hi.1, hi.2, hj, ez, q.put rh e ep rfl rfl (fun kk => ⟨_, upd_same, (e2.erase j).mono kk (Ex.refl m) _ _⟩) (fun kk => rz.mono kk (Ex.refl m) _ _)⟩
  · obtain ⟨ys, e, q⟩ := q
    obtain ⟨p, vs, rfl, ep, e1, e2⟩ := lst_here rh rw_ e
    cases (show xs = [] from rws)
    exact mt_reverse pins s σ H _ _ v us Q I rx rxs ⟨p, vs, rfl, rfl, e1, q.put rh e ep rfl rfl (fun kk => ⟨_, upd_same, e2.rev.mono kk (Ex.refl m) _ _⟩) (fun _ => rfl)⟩
  · obtain ⟨ys, e, q⟩ := q
    obtain ⟨p, vs, rfl, ep, e1, e2⟩ := lst_here rh rw_ e
    cases (show xs = [] from rws)
    exact mt_clear pins s σ H _ _ v us Q I rx rxs ⟨p, vs, rfl, rfl, e1, q.put rh e ep rfl rfl (fun kk => ⟨[], upd_same, rfl⟩) (fun _ => rfl)⟩
  · obtain ⟨ys, e, hz, q⟩ := q
    cases (show x = .str _ from rw_)
    obtain ⟨z, rfl, rz⟩ := rws.one_of
    obtain ⟨p, zs, rfl, e1, e2⟩ := seqOf_get rh rz e
    cases e2.strs
    exact mt_join pins s σ H _ _ v us Q I rx rxs ⟨_, p, ys, rfl, rfl, by rw [hK]; exact e1, hz, q.at rh rfl⟩
  · obtain ⟨h1, h2, q⟩ := q
    cases (show x = .str _ from rw_)
    obtain ⟨z, rfl, rz⟩ := rws.one_of
    cases (show z = .str _ from rz)
    exact mt_split pins s σ H _ _ v us Q I rx rxs ⟨_, _, rfl, rfl, h1, h2, q.new rh rfl fun p hp => ⟨_, upd_same, RVs.of_strs⟩⟩
  · cases (show x = .str _ from rw_)
    obtain ⟨z, rfl, rz⟩ := rws.one_of
    cases (show z = .str _ from rz)
    exact mt_startswith pins s σ H _ _ v us Q I rx rxs ⟨_, _, rfl, rfl, q.at rh rfl⟩
  · cases (show x = .str _ from rw_)
    cases (show xs = [] from rws)
    exact mt_isalnum pins s σ H _ _ v us Q I rx rxs ⟨_, rfl, rfl, trivial, q.at rh rfl⟩
  · cases (show x = .str _ from rw_)
    cases (show xs = [] from rws)
    exact mt_upper pins s σ H _ _ v us Q I rx rxs ⟨_, rfl, rfl, q.1, q.2.at rh rfl⟩
theorem tyN_tyV {K : PySem.W.Frag} {m : List Addr} {H : Hp} {h : PH} {v : PV} {x : V} {T : String} (hK : K = M.K) (rh : RH M H m h) (rv : RV M.K H m v x) (e : tyN h v = some T) (hT : T = "list" ∨ T = "str") : tyV K T x H := by
  subst hK
  cases v with
  | str z => cases (show x = .str z from rv); cases e; rfl
  | ref a =>
    unfold tyN at e
    dsimp only at e
    have go : ∀ xs, lstOf h (.ref a) = some xs → T = "list" → tyV M.K T x H := fun xs e2 e3 => by
      obtain ⟨p, vs, rfl, e4, _⟩ := lstOf_get rh rv e2
      exact .inl ⟨e3, vs, e4⟩
    split at e
    · rename_i xs e2
      cases e
      exact go xs (by unfold lstOf; dsimp only; rw [e2]) rfl
    · rename_i xs e2
      cases e
      exact go xs (by unfold lstOf; dsimp only; rw [e2]) rfl
    · cases e
      rcases hT with h | h <;> exact absurd h (by decide)
    · cases e
  | tup xs => cases e; rcases hT with h | h <;> exact absurd h (by decide)
  | non => cases e; rcases hT with h | h <;> exact absurd h (by decide)
  | bl b => cases e; rcases hT with h | h <;> exact absurd h (by decide)
  | int b => cases e; rcases hT with h | h <;> exact absurd h (by decide)
theorem base_of {o : Expr} (h : baseB o = true) (name : Str) (env : Env) : attributeBase o name env (eval o env) = eval o env := by
  cases o with
  | Call f as ks p => cases f <;> first | rfl | (cases as <;> first | rfl | (cases ks <;> first | rfl | exact absurd h Bool.false_ne_true))
  | _ => rfl
/-- o.m(..) of a built-in type -/
theorem pe_bmM {X : Cx} {N : List Str} {sc : Sco} {W : WX} (g : Good M X N sc W k) {f : BM} {o : E} {es : Es} {y : Expr} {xs : List Expr} {name : Str} {p q : Pos} (hb : bmB f xs.length = true) (hn : bmNm f = name) (hl : (p.endLine == q.line) = true) (hy : baseB y = true)
    (ho : PE X y (tE M W fun Y => evE M.G (callS M.G k) Y o)) (hm : mEs M.toMe N sc es xs = true) (ha : PA X xs (tA M W fun Y => evEs M.G (callS M.G k) Y es)) :
    PE X (.Call (.Attribute y name p) xs [] q) (tE M W fun Y => evE M.G (callS M.G k) Y (.bm f o es)) := by
  have slot : PlainAttrs (bmT f) ∧ Slot (bmT f) name (bmId f) ∧ typeOf (.builtin (bmId f)) = pure (.type "method_descriptor") ∧ (bmT f = "list" ∨ bmT f = "str") := by
    subst hn
    cases f <;> first | (exfalso; revert hb; unfold bmB; generalize xs.length = n; cases n <;> (intro hb; cases hb); done) | skip
    · exact ⟨PySem.F.plainAttrs_list, PySem.F.slot_list_append, PySem.F.type_list_append, .inl rfl⟩
    · exact ⟨PySem.F.plainAttrs_list, PySem.F.slot_list_extend, PySem.F.type_list_extend, .inl rfl⟩
    · exact ⟨PySem.F.plainAttrs_list, PySem.F.slot_list_pop, PySem.F.type_list_pop, .inl rfl⟩
    · exact ⟨PySem.F.plainAttrs_list, PySem.F.slot_list_pop, PySem.F.type_list_pop, .inl rfl⟩
    · exact ⟨PySem.F.plainAttrs_list, PySem.F.slot_list_reverse, PySem.F.type_list_reverse, .inl rfl⟩
    · exact ⟨PySem.F.plainAttrs_list, PySem.F.slot_list_clear, PySem.F.type_list_clear, .inl rfl⟩
    · exact ⟨PySem.F.plainAttrs_str, PySem.F.slot_str_join, PySem.F.type_str_join, .inr rfl⟩
    · exact ⟨PySem.F.plainAttrs_str, PySem.F.slot_str_split, PySem.F.type_str_split, .inr rfl⟩
    · exact ⟨PySem.F.plainAttrs_str, PySem.F.slot_str_startswith, PySem.F.type_str_startswith, .inr rfl⟩
    · exact ⟨PySem.F.plainAttrs_str, PySem.F.slot_str_isalnum, PySem.F.type_str_isalnum, .inr rfl⟩
    · exact ⟨PySem.F.plainAttrs_str, PySem.F.slot_str_upper, PySem.F.type_str_upper, .inr rfl⟩
  obtain ⟨s1, s2, s3, s4⟩ := slot
  match xs, es, hb, hm, ha with
  | [], .nil, hb, hm, ha =>
    refine (pe_bm0 s1 s2 s3 (sBm (M := M) g.hK f 0 hb) ho (base_of hy name X.env) hl).wk fun σ H Q q => ?_
    obtain ⟨m, l, h, rh, rl, q⟩ := q
    refine tE_in rh rl (fun _ _ z => z) q fun m1 H1 v w h1 e1 k1 rh1 rl1 rv1 q1 => ?_
    exact ⟨tyN_tyV g.hK rh1 rv1 q1.1 s4, m1, h1, v, [], rh1, rv1, rfl, bmV_mono (LQ.mono e1 k1) q1.2⟩
  | [z], .cons a .nil, hb, hm, ha =>
    have hz := star_of (ba (show (mE M.toMe N sc a z && mEs M.toMe N sc .nil []) = true from hm)).1 X.env []
    refine (pe_bm s1 s2 s3 (sBm (M := M) g.hK f 1 hb) ho ha (base_of hy name X.env) (by rw [hz] <;> rfl) hl hz rfl).wk fun σ H Q q => ?_
    obtain ⟨m, l, h, rh, rl, q⟩ := q
    refine tE_in rh rl (fun _ _ z => z) q fun m1 H1 v w h1 e1 k1 rh1 rl1 rv1 q1 => ?_
    refine ⟨tyN_tyV g.hK rh1 rv1 q1.1 s4, tA_in rh1 rl1 (LX.mono e1 k1) q1.2 fun m2 H2 u w2 h2 e2 k2 rh2 rl2 rv2 q2 => ?_⟩
    exact ⟨m2, h2, v, u, rh2, rv1.mono k2 e2, rv2, bmV_mono (LQ.mono (e1.trans e2) (k1.trans k2)) q2⟩
  | [], .cons _ _, hb, hm, ha => exact absurd hm Bool.false_ne_true
  | _ :: _, .nil, hb, hm, ha => exact absurd hm Bool.false_ne_true
  | [_], .cons _ (.cons _ _), hb, hm, ha => exact absurd (ba hm).2 Bool.false_ne_true
  | _ :: _ :: r, .cons _ es, hb, hm, ha =>
    exfalso
    have : ∀ n, bmB f (n + 2) = false := fun n => by cases f <;> rfl
    rw [show (List.length (_ :: _ :: r)) = r.length + 2 from rfl, this] at hb
    exact Bool.false_ne_true hb
theorem pts_wk {X : Cx} {e : List Expr} {t t' : TT} (p : PTs X e t) (h : ∀ σ H Q, t' σ H Q → t σ H Q) : PTs X e t' := ⟨fun pins s σ H Q I q => p.run pins s σ H Q I (h _ _ _ q)⟩
theorem fold_of {iter : Expr} (h : notSet iter = true) (env : Env) : ∀ x, foldedSetIterable iter env x = pure x := by
  cases iter <;> first | (intro _; rfl) | exact absurd h Bool.false_ne_true
theorem lcp {X : Cx} {N : List Str} {sc : Sco} {W : WX} (g : Good M X N sc W k) {elt : E} {t : T} {it : I} {cond : OC} {tg iter x' : Expr} {ifs : List Expr} {scope : Scope} {pos : Pos} (ht : tnB t = true) (hb : blkB N sc scope (ownOf N t) = true)
    (hi : PI X tg iter (tI M W fun Y => evI M.G (callS M.G k) Y it) ∧ notSet iter = true) (hg : mT M.toMe false N (relB scope sc) t tg = true)
    (hc : ∀ (X' : Cx) (W' : WX), Good M X' N (relB scope sc) W' k → PTs X' ifs (tT M W' fun Y => evC M.G (callS M.G k) Y cond)) (he : ∀ (X' : Cx) (W' : WX), Good M X' N (relB scope sc) W' k → PE X' x' (tE M W' fun Y => evE M.G (callS M.G k) Y elt)) :
    PE X (.ListComp x' [⟨tg, iter, ifs, 0⟩] scope pos) (tE M W fun Y => evE M.G (callS M.G k) Y (.lc elt t it cond)) := by
  have ok := blk_ok g hb
  have kd : scope.kind = .function := ok.kind
  have p := pe_lc (pos := pos) (te := tE M (fun _ _ _ _ => False) fun Y => evE M.G (callS M.G k) Y elt) g.calm (by rw [g.hN]; exact g.nd) hi.1 ok (fun s H C cl fp => sGn t _ N (relB scope sc) _ (fun _ _ => False) tg (tNs t) (g.blk s H C cl fp kd) ht (fun _ h => h) hg)
    (fun s H C cl fp => hc _ _ (g.blk s H C cl fp kd)) (fun s H C cl fp => he _ _ (g.blk s H C cl fp kd)) (fold_of hi.2 X.env)
  rw [own_ix] at p
  exact p.wk fun σ H Q q => lc_in q
theorem blt_in {x : Str} (h : x = "range" ∨ x = "enumerate" ∨ x = "zip" ∨ x = "reversed") : x ∈ bltNames := by
  rcases h with rfl | rfl | rfl | rfl <;> (unfold bltNames; simp)
/-- a dict -/
theorem dic_ty {m : List Addr} {H : Hp} {h : PH} {v : PV} {x : V} (rh : RH M H m h) (rv : RV M.K H m v x) (e : tyN h v = some "dict") : ∃ p, x = .ref p ∧ ∃ ks, H p = some (.dK ks) := by
  cases v with
  | ref a =>
    obtain ⟨p, ep, rfl⟩ := rv
    unfold tyN at e
    dsimp only at e
    split at e
    · exact absurd (Option.some.inj e) (by decide)
    · exact absurd (Option.some.inj e) (by decide)
    · rename_i kvs e2
      obtain ⟨ks, e3, _⟩ := rh.obj _ _ _ e2 ep
      exact ⟨p, rfl, ks, e3⟩
    · cases e
  | non => exact absurd (Option.some.inj e) (by decide)
  | bl b => exact absurd (Option.some.inj e) (by decide)
  | int b => exact absurd (Option.some.inj e) (by decide)
  | str b => exact absurd (Option.some.inj e) (by decide)
  | tup b => exact absurd (Option.some.inj e) (by decide)
/-- C(..) -/
theorem pe_mkG {X : Cx} {N : List Str} {sc : Sco} {W : WX} (g : Good M X N sc W k) {c : Nat} {cd : CD} (hc : M.G.cls c = some cd) {p pos : Pos} {es : Es} {xs : List Expr} (hg : glB sc (M.nm c) = true) (hm : mEs M.toMe N sc es xs = true)
    (ha : PA X xs (tA M W fun Y => evEs M.G (callS M.G k) Y es)) : PE X (.Call (.Name (M.nm c) p) xs [] pos) (tE M W fun Y => evE M.G (callS M.G k) Y (.mk c es)) := by
  obtain ⟨g1, g2⟩ := gl_of g hg
  have ok := g.cls c cd hc
  have kp : PySem.W.keepIn X.K (.ref (M.ca c)) = true := by rw [g.hK]; exact ok.mak.kp
  have mk : Mk X.K (M.ca c) (M.fa cd.init) := by rw [g.hK]; exact ok.mak
  obtain ⟨d, hd⟩ := Option.isSome_iff_exists.mp ok.ini
  have run : ∀ {pins : List (Addr × Obj)} {σ : L2.St} {H H1 : Hp} {s : Shared} {Q : VK} {us : List Value} {ws : List V} {vs : List PV} {m m1 : List Addr} {h1 : PH}, L2.Inv X pins σ H1 s → Vals ws us → RH M H1 m1 h1 → RVs M.K H1 m1 vs ws →
      callS M.G k (.mk c) vs h1 (LQ M m1 H1 Q) (LX M W σ m1 H1) → wpAny (model X.prog X.w) X.A (call (.ref (M.ca c)) us) (EP X pins σ Q) X.xe s := by
    intro pins σ H H1 s Q us ws vs m m1 h1 I r rh rv q
    cases hk : k with
    | zero => subst hk; exact (show False from q).elim
    | succ j =>
      subst hk
      obtain ⟨cd', hc', q⟩ := q
      rw [hc] at hc'; cases hc'
      obtain ⟨fd, ps, F, _, D⟩ := (g.fns j (Nat.le_succ j) cd.init d hd).ex
      have F' : FnG X.prog X.w X.K X.mg X.base (L2.CX X.prog X.w) j (M.fa cd.init) fd ps (spF M j cd.init d.np) := by rw [g.hK]; exact F
      have len := rv.len
      have q0 := q
      cases j with
      | zero => exact (show False from q).elim
      | succ i =>
        obtain ⟨d', hd', l1, l2, _⟩ := q0
        rw [hd] at hd'; cases hd'
        obtain ⟨dvs, ds, hv, hb, hr⟩ := D (vs.length + 1) l2 (by have z := fill_len (dfl := d.dfl) (vs := .ref h1.length :: vs) (n := d.np); rw [List.length_cons] at z; exact z.symm.trans l1)
        refine run_makeG (dvs := dvs) (E := WE W σ) mk F' g.gd g.room (by rw [g.hK]; exact hb) hv (passAt g.tk σ) I r fun x dx hx hdx ne => ?_
        have hx2 : upd H1 dx (.own x) x = none := by rw [upd_ne (Ne.symm ne)]; exact hx
        have rh2 : RH M (upd H1 dx (.own x)) m1 h1 := rh.tup hdx
        have rh3 : RH M (upd (upd H1 dx (.own x)) x (.ins (M.ca c) dx [])) (m1 ++ [x]) (h1 ++ [.ins c []]) := rh2.new (o := .ins c []) hx2 ⟨dx, [], cd, upd_same, hc, fun f _ => trivial, rfl, fun s hs => by cases hs⟩ rfl
        have kk : Kp M.K H1 (upd (upd H1 dx (.own x)) x (.ins (M.ca c) dx [])) := (Kp.upd_new hdx).trans (Kp.upd_new hx2)
        have ex := Ex.app m1 x
        have me : (m1 ++ [x])[h1.length]? = some x := by rw [← rh.len]; simp
        refine ⟨m1 ++ [x], h1 ++ [.ins c []], fill d.dfl (.ref h1.length :: vs) d.np, rh3, ?_, l1, ?_⟩
        · refine (show RVs M.K _ _ (.ref h1.length :: (vs ++ d.dfl.drop (d.dfl.length - (d.np - (vs.length + 1))))) _ from ⟨_, _, rfl, ⟨x, me, rfl⟩, (rv.mono kk ex).app (hr _ _)⟩)
        · have e0 : fill d.dfl (fill d.dfl (.ref h1.length :: vs) d.np) d.np = fill d.dfl (.ref h1.length :: vs) d.np := by
            have z : d.np - (fill d.dfl (.ref h1.length :: vs) d.np).length = 0 := by omega
            show fill d.dfl (.ref h1.length :: vs) d.np ++ d.dfl.drop (d.dfl.length - (d.np - (fill d.dfl (.ref h1.length :: vs) d.np).length)) = _
            rw [z]; simp
          have q1 : callS M.G (i + 1) (.fn cd.init) (fill d.dfl (.ref h1.length :: vs) d.np) (h1 ++ [.ins c []]) (fun v h' => v = .non ∧ LQ M m1 H1 Q (.ref h1.length) h') (LX M W σ m1 H1) := by
            obtain ⟨d', hd', a1, a2, q⟩ := q
            rw [hd] at hd'; cases hd'
            exact ⟨d, hd, by rw [e0]; exact l1, Nat.le_of_eq l1, by rw [e0]; exact q⟩
          refine callS_mono (fun v h' q2 m' H' w e' k' r' rv' => ?_) (LX.mono ex kk) q1
          obtain ⟨rfl, q2⟩ := q2
          exact ⟨rv', q2 m' H' (.ref x) (ex.trans e') (kk.trans k') r' ⟨x, e' _ _ me, rfl⟩⟩
  refine ⟨fun pins s σ H Q I h => ?_⟩
  have h' : tA M W (fun Y => evEs M.G (callS M.G k) Y es) σ H fun ws H1 => ∃ m1 h1 vs, RH M H1 m1 h1 ∧ RVs M.K H1 m1 vs ws ∧ callS M.G k (.mk c) vs h1 (LQ M m1 H1 Q) (LX M W σ m1 H1) := by
    obtain ⟨m, l, h, rh, rl, q⟩ := h
    exact tA_in rh rl (fun _ _ z => z) q fun m1 H1 v w h1 e1 k1 rh1 rl1 rv1 q1 => ⟨m1, h1, v, rh1, rv1, callS_mono (LQ.mono e1 k1) (LX.mono e1 k1) q1⟩
  refine wpAny_Call_Name_kw (ld_glob I g1 ok.glob ?_ g2)
  cases xs with
  | nil =>
    have h2 : ∃ m1 h1 vs, RH M H m1 h1 ∧ RVs M.K H m1 vs [] ∧ callS M.G k (.mk c) vs h1 (LQ M m1 H Q) (LX M W σ m1 H) := by
      cases es with
      | nil => obtain ⟨m, l, h, rh, rl, q⟩ := h'; exact q m H [] (Ex.refl m) (Kp.refl _ H) rh rfl
      | cons _ _ => exact absurd hm Bool.false_ne_true
    obtain ⟨m1, h1, vs, rh, rv, q⟩ := h2
    exact PySem.W.callWith_K0 I.kIn kp (run (H := H) (m := m1) I .nil rh rv q)
  | cons y ys =>
    obtain ⟨s1, s2⟩ := star_plain2 X.env pos hm
    refine PySem.W.callWith_K (h₀ := X.base) I.ok.mod.kin kp (thn (ha.run pos pins s σ H _ I h') fun us s1 ⟨ws, H1, I1, r, m1, h1, vs, rh, rv, q⟩ => ⟨I1.kIn, run (H := H) (m := m1) I1 r rh rv q⟩) s1 s2
/-- C(.., k = v) -/
theorem pe_mkNG {X : Cx} {N : List Str} {sc : Sco} {W : WX} (g : Good M X N sc W k) {c : Nat} {cd : CD} (hc : M.G.cls c = some cd) {kn : Str} (hk : kwB M.toMe c kn = true) {p pos kp : Pos} {es : Es} {e : E} {y0 z : Expr} {ys : List Expr} (hg : glB sc (M.nm c) = true) (hm : mEs M.toMe N sc es (y0 :: ys) = true)
    (ha : PA X (y0 :: ys) (tA M W fun Y => evEs M.G (callS M.G k) Y es)) (he : PE X z (tE M W fun Y => evE M.G (callS M.G k) Y e)) : PE X (.Call (.Name (M.nm c) p) (y0 :: ys) [⟨some kn, z, kp⟩] pos) (tE M W fun Y => evE M.G (callS M.G k) Y (.mkK c es e)) := by
  obtain ⟨g1, g2⟩ := gl_of g hg
  have ok := g.cls c cd hc
  have kpp : PySem.W.keepIn X.K (.ref (M.ca c)) = true := by rw [g.hK]; exact ok.mak.kp
  have mk : Mk X.K (M.ca c) (M.fa cd.init) := by rw [g.hK]; exact ok.mak
  obtain ⟨d, hd⟩ := Option.isSome_iff_exists.mp ok.ini
  have hkw : d.kw.map M.nm = some kn := by
    unfold kwB at hk
    rw [hc] at hk
    dsimp only at hk
    rw [hd] at hk
    exact of_decide_eq_true hk
  obtain ⟨kx, ekx, ekn⟩ := Option.map_eq_some_iff.mp hkw
  obtain ⟨s1, s2⟩ := star_plain2 X.env pos hm
  have hmg : X.mg (M.nm c) = some (.ref (M.ca c)) := ok.glob
  refine ⟨fun pins s σ H Q I h => ?_⟩
  obtain ⟨m, l, h0, rh, rl, q⟩ := h
  refine wpAny_Call_Name_kw (ld_glob I g1 hmg ?_ g2)
  refine PySem.W.callWith_KW (h₀ := X.base) I.ok.mod.kin kpp (by rfl) (thn (ha.run pos pins s σ H (fun vs H1 => (tCons (tE M W fun Y => evE M.G (callS M.G k) Y e) tNil) σ H1 fun zs H2 => ∃ m2 h2 pvs pz zv, Ex m m2 ∧ Kp M.K H H2 ∧ RH M H2 m2 h2 ∧ RL M.K H2 m2 l σ ∧ RVs M.K H2 m2 pvs vs ∧ zs = [zv] ∧ RV M.K H2 m2 pz zv ∧
      ∃ cd d, M.G.cls c = some cd ∧ M.G.fn cd.init = some d ∧ d.kw.isSome = true ∧ pvs.length + 2 ≤ d.np ∧ d.np - 2 - pvs.length ≤ d.dfl.length - 1 ∧
        callS M.G k (.mk c) (pvs ++ d.dfl.dropLast.drop (d.dfl.length - 1 - (d.np - 2 - pvs.length)) ++ [pz]) h2 (LQ M m H Q) (LX M W σ m H)) I (tA_in rh rl (fun _ _ z => z) q fun m1 H1 v w h1 e1 k1 rh1 rl1 rv1 q1 => ?_)) fun us s1 ⟨vs, H1, I1, r, q⟩ => ?_) (by rw [show (backTo pos (starEach (y0 :: ys) X.env)).any (·.1) = false by rw [s1]; exact s2]; rfl) s1
  · exact tE_in rh1 rl1 (LX.mono e1 k1) q1 fun m2 H2 u w2 h2 e2 k2 rh2 rl2 rv2 q2 => ⟨m2, h2, v, u, w2, e1.trans e2, k1.trans k2, rh2, rl2, rv1.mono k2 e2, rfl, rv2, q2⟩
  · refine thn ((pk_cons he pk_nil).run pos pins s1 σ H1 _ I1 q) fun ws s2 ⟨zs, H2, I2, rz, m2, h2, pvs, pz, zv, e2, k2, rh2, rl2, rvs, ezs, rz2, cd', d', hc', hd', _, n1, n2, q2⟩ => ⟨I2.kIn, ?_⟩
    subst ezs
    rw [hc] at hc'; cases hc'
    rw [hd] at hd'; cases hd'
    show wpAny _ _ (call (.ref (M.ca c)) us ([kn].zip ws)) _ _ _
    have vl := rvs.len
    cases hk2 : k with
    | zero => subst hk2; exact (show False from q2).elim
    | succ j =>
      subst hk2
      obtain ⟨cd', hc', q2⟩ := q2
      rw [hc] at hc'; cases hc'
      obtain ⟨fd, ps, F, ⟨_, KW⟩, D⟩ := (g.fns j (Nat.le_succ j) cd.init d hd).ex
      have F' : FnG X.prog X.w X.K X.mg X.base (L2.CX X.prog X.w) j (M.fa cd.init) fd ps (spF M j cd.init d.np) := by rw [g.hK]; exact F
      obtain ⟨gg, gV, mid, kb, gv, rmid⟩ := KW kx ekx (vs.length + 1) (by omega) (by omega)
      rw [ekn] at kb
      refine run_makeNG (E := WE W σ) (n := vs.length) (ks := [kn]) mk F' g.gd g.room (by rw [g.hK]; exact kb) (passAt g.tk σ) I2 r rz rfl rfl fun x dx hx hdx ne => ?_
      have hx2 : upd H2 dx (.own x) x = none := by rw [upd_ne (Ne.symm ne)]; exact hx
      have rh3 : RH M (upd H2 dx (.own x)) m2 h2 := rh2.tup hdx
      have rh4 : RH M (upd (upd H2 dx (.own x)) x (.ins (M.ca c) dx [])) (m2 ++ [x]) (h2 ++ [.ins c []]) := rh3.new (o := .ins c []) hx2 ⟨dx, [], cd, upd_same, hc, fun f _ => trivial, rfl, fun s hs => by cases hs⟩ rfl
      have kk : Kp M.K H2 (upd (upd H2 dx (.own x)) x (.ins (M.ca c) dx [])) := (Kp.upd_new hdx).trans (Kp.upd_new hx2)
      have ex := Ex.app m2 x
      have me : (m2 ++ [x])[h2.length]? = some x := by rw [← rh2.len]; simp
      rw [gv (.ref x :: vs) zv rfl]
      have rm := rmid (upd (upd H2 dx (.own x)) x (.ins (M.ca c) dx [])) (m2 ++ [x])
      rw [show d.np - 1 - (vs.length + 1) = d.np - 2 - pvs.length by omega] at rm
      refine ⟨m2 ++ [x], h2 ++ [.ins c []], .ref h2.length :: (pvs ++ d.dfl.dropLast.drop (d.dfl.length - 1 - (d.np - 2 - pvs.length)) ++ [pz]), rh4, ?_, ?_, ?_⟩
      · exact (show RVs M.K _ _ (.ref h2.length :: (pvs ++ d.dfl.dropLast.drop (d.dfl.length - 1 - (d.np - 2 - pvs.length)) ++ [pz])) (V.ref x :: (vs ++ mid ++ [zv])) from ⟨_, _, rfl, ⟨x, me, rfl⟩, ((rvs.mono kk ex).app rm).app (RVs.one (rz2.mono kk ex _ _))⟩)
      · simp only [List.length_cons, List.length_append, List.length_drop, List.length_dropLast, List.length_nil]; omega
      · refine callS_mono (fun v h' q3 m' H' w e' k' r' rv' => ?_) (fun v h' q3 => LX.mono (e2.trans ex) (k2.trans kk) v h' q3) q2
        obtain ⟨rfl, q3⟩ := q3
        exact ⟨rv', q3 m' H' (.ref x) ((e2.trans ex).trans e') ((k2.trans kk).trans k') r' ⟨x, e' _ _ me, rfl⟩⟩
/-- the values of a written dict -/
def LKs (M : Mo) (m : List Addr) (H : Hp) (ks : List Str) (R : List (V × V) → Hp → Prop) : List PV → PH → Prop := fun xs h' => ∀ (m' : List Addr) (H' : Hp) (ws : List V), Ex m m' → Kp M.K H H' → RH M H' m' h' → RVs M.K H' m' xs ws → R ((ks.map V.str).zip ws) H'
theorem zip_kv : ∀ (ks : List Str) (zs : List V), (ks.map V.str).zip zs = ((ks.zip zs).map fun kv => ((Sum.inr kv.1 : Key), kv.2)).map fun kv => (kV kv.1, kv.2)
  | [], _ => rfl
  | _ :: _, [] => rfl
  | k :: ks, z :: zs => by
    show (V.str k, z) :: (ks.map V.str).zip zs = (V.str k, z) :: _
    rw [zip_kv ks zs]; rfl
theorem merge_of {K : PySem.W.Frag} {H : Hp} {m : List Addr} : ∀ (ks : List Str) (ws : List PV) (zs : List V) (a : List (PV × PV)) (b : List (Key × V)), RKs K H m a b → RVs K H m ws zs → RKs K H m (mergeD a ks ws) (mergeK b ((ks.zip zs).map fun kv => (.inr kv.1, kv.2)))
  | [], ws, zs, a, b, r, _ => by cases ws <;> exact r
  | k :: ks, [], zs, a, b, r, h => by cases (show zs = [] from h); exact r
  | k :: ks, w :: ws, zs, a, b, r, h => by
    obtain ⟨v, s, rfl, h1, h2⟩ := h
    exact merge_of ks ws s _ _ (put_of (k := .str k) (q := .inr k) rfl h1 r) h2
theorem meth_eval {o : Expr} {name : Str} {apos pos : Pos} {args : List Expr} {env : Env} (hb : attributeBase o name env (eval o env) = eval o env) (hs : (backTo pos (starEach args env)).any (·.1) = false) (hn : args.length < 30) (hl : (apos.endLine == pos.line) = true) :
    eval (.Call (.Attribute o name apos) args [] pos) env = (do
      let ov ← eval o env
      standAt apos.atName
      let (f, first) ← holding [ov] (getMethod ov name (do return (← importBound o env).getD true))
      callWith pos f first (backTo pos (starEach args env)) (backToKw pos (keywordEach [] env))) := by
  refine mcall_of hb fun ov => ?_
  have few : methodCallForm (args.length + ([] : List Keyword).length) (backTo pos (starEach args env)) (backToKw pos (keywordEach [] env)) = true := by
    unfold methodCallForm
    have e1 : (backTo pos (starEach args env)).all (fun x => !x.1) = true := by
      rw [List.all_eq_not_any_not]
      simp only [Bool.not_not]
      rw [hs]; rfl
    rw [e1, Bool.true_and]
    show (true && decide (args.length + 0 + 0 < 30)) = true
    rw [Bool.true_and]; exact decide_eq_true (by omega)
  unfold methodCall
  rw [few]
  unfold calleeOf methodCallPos
  simp only [if_true, hl, Bool.or_true, pure_bind]
theorem lookup_no {gs : List (Str × V)} {k : Str} : (∀ s ∈ gs.map (·.1), s ≠ k) → gs.lookup k = none := by
  induction gs with
  | nil => intro _; rfl
  | cons p r ih =>
    intro h
    obtain ⟨a, b⟩ := p
    have h1 : a ≠ k := h a (List.mem_cons_self ..)
    have h2 : (k == a) = false := beq_eq_false_iff_ne.mpr (Ne.symm h1)
    show (match k == a with | true => some b | false => r.lookup k) = none
    rw [h2]
    exact ih fun s hs => h s (List.mem_cons_of_mem _ hs)
/-- o.m(..) -/
theorem pe_methG {X : Cx} {N : List Str} {sc : Sco} {W : WX} (g : Good M X N sc W k) {o : E} {mm : Nat} {y : Expr} {p q : Pos} {es : Es} {xs : List Expr} (hl : (p.endLine == q.line) = true) (hn : xs.length < 30) (hy : baseB y = true)
    (ho : PE X y (tE M W fun Y => evE M.G (callS M.G k) Y o)) (hm : mEs M.toMe N sc es xs = true) (ha : PA X xs (tA M W fun Y => evEs M.G (callS M.G k) Y es)) :
    PE X (.Call (.Attribute y (M.nm mm) p) xs [] q) (tE M W fun Y => evE M.G (callS M.G k) Y (.meth o mm es)) := by
  have hst : (backTo q (starEach xs X.env)).any (·.1) = false := star_plain X.env q hm
  refine ⟨fun pins s σ H Q I h => ?_⟩
  refine methcall_of ho I ?_ (meth_eval (base_of hy _ _) hst hn hl)
  obtain ⟨m, l, h, rh, rl, q0⟩ := h
  refine tE_in rh rl (fun _ _ z => z) q0 fun m1 H1 v w h1 e1 k1 rh1 rl1 rv1 q1 => ?_
  obtain ⟨a, c, fs, cd, f, rfl, ep, hc, hf, q1⟩ := q1
  obtain ⟨pa, e2, rfl⟩ := rv1
  obtain ⟨dx, gs, cd', a1, a2, a3, a4, a5⟩ := rh1.obj _ _ _ ep e2
  rw [hc] at a2; cases a2
  have ok := g.cls c cd hc
  obtain ⟨mt, nf, fd0⟩ := ok.meth mm f hf
  obtain ⟨d, hd⟩ := Option.isSome_iff_exists.mp fd0
  obtain ⟨fd, ps, F, ⟨kp, _⟩, D⟩ := (g.fns k (Nat.le_refl k) f d hd).ex
  have F' : FnG X.prog X.w X.K X.mg X.base (L2.CX X.prog X.w) k (M.fa f) fd ps (spF M k f d.np) := by rw [g.hK]; exact F
  have kp' : PySem.W.keepIn X.K (.ref (M.fa f)) = true := by rw [g.hK]; exact kp
  refine ⟨pa, M.ca c, dx, gs, M.fa f, rfl, a1, by rw [g.hK]; exact ok.cls, by rw [g.hK]; exact mt, lookup_no fun s hs e => nf (e ▸ a5 s hs), fun s1 I1 => ?_⟩
  have run : ∀ {H2 : Hp} {s2 : Shared} {us : List Value} {ws : List V} {vs : List PV} {m2 : List Addr} {h2 : PH}, L2.Inv X pins σ H2 s2 → Vals ws us → RH M H2 m2 h2 → RVs M.K H2 m2 (.ref a :: vs) (.ref pa :: ws) →
      callS M.G k (.fn f) (.ref a :: vs) h2 (LQ M m2 H2 Q) (LX M W σ m2 H2) → wpAny (model X.prog X.w) X.A (call (.ref (M.fa f)) (.ref pa :: us)) (EP X pins σ Q) X.xe s2 := by
    intro H2 s2 us ws vs m2 h2 I2 r rh2 rv2 q2
    obtain ⟨l1, l2, go⟩ := call_sp (E := WE W σ) hd rh2 rv2 q2
    obtain ⟨dvs, ds, hv, hb, hr⟩ := D _ l1 l2
    exact run_fnG F' g.gd g.room (by rw [g.hK]; exact hb) hv (passAt g.tk σ) I2 (.cons (show L2.RelV (V.ref pa) (Value.ref pa) from rfl) r) (go dvs hr)
  cases xs with
  | nil =>
    cases es with
    | cons _ _ => exact absurd hm Bool.false_ne_true
    | nil =>
      have q2 : callS M.G k (.fn f) [.ref a] h1 (LQ M m H Q) (LX M W σ m H) := q1
      exact PySem.W.callWith_K0 (first := [.ref pa]) I1.kIn kp' (run (us := []) (ws := []) (vs := []) I1 .nil rh1 ⟨_, _, rfl, ⟨pa, e2, rfl⟩, rfl⟩ (callS_mono (LQ.mono e1 k1) (LX.mono e1 k1) q2))
  | cons z zs =>
    obtain ⟨s2, s3⟩ := star_plain2 X.env q hm
    have q2 := tA_in (W := W) (σ := σ) (Q' := fun ws H2 => ∃ m2 h2 vs, RH M H2 m2 h2 ∧ RVs M.K H2 m2 (.ref a :: vs) (.ref pa :: ws) ∧ callS M.G k (.fn f) (.ref a :: vs) h2 (LQ M m2 H2 Q) (LX M W σ m2 H2)) rh1 rl1 (LX.mono e1 k1) q1
      fun m2 H2 u w2 h2 e2' k2 rh2 rl2 rv2 q2 => ⟨m2, h2, u, rh2, ⟨_, _, rfl, ⟨pa, e2' _ _ e2, rfl⟩, rv2⟩, callS_mono (LQ.mono (e1.trans e2') (k1.trans k2)) (LX.mono (e1.trans e2') (k1.trans k2)) q2⟩
    exact PySem.W.callWith_K (first := [.ref pa]) (h₀ := X.base) I1.ok.mod.kin kp' (thn (ha.run q pins s1 σ H1 _ I1 q2) fun us s2 ⟨ws, H2, I2, r, m2, h2, vs, rh2, rv2, q3⟩ => ⟨I2.kIn, run I2 r rh2 rv2 q3⟩) s2 s3
mutual
theorem sE : ∀ (e : E) (X : Cx) (N : List Str) (sc : Sco) (W : WX) (x : Expr), Good M X N sc W k → mE M.toMe N sc e x = true → PE X x (tE M W fun Y => evE M.G (callS M.G k) Y e)
  | .var i, X, N, sc, W, x, g, hm => by
    cases x <;> first | exact absurd hm Bool.false_ne_true | skip
    rename_i id pos
    obtain ⟨h123, h4⟩ := ba hm
    obtain ⟨h12, h3⟩ := ba h123
    obtain ⟨h1, h2⟩ := ba h12
    refine (pe_var (i := i) (by rw [g.hN]; exact of_decide_eq_true h1) (vis_of g h2) (nb h3) (nb h4)).wk fun σ H Q q => ?_
    obtain ⟨m, l, h, rh, rl, v, e, q⟩ := q
    obtain ⟨w, e2, rv⟩ := rl.2 i v e
    exact ⟨w, e2, q.at rh rv⟩
  | .int i, X, N, sc, W, x, g, hm => by
    cases x <;> first | exact absurd hm Bool.false_ne_true | skip
    rename_i c j pos
    cases c <;> first | exact absurd hm Bool.false_ne_true | skip
    have e := of_decide_eq_true hm
    subst e
    exact pe_int.wk fun σ H Q ⟨m, l, h, rh, rl, q⟩ => LQ.at q rh rfl
  | .str i, X, N, sc, W, x, g, hm => by
    cases x <;> first | exact absurd hm Bool.false_ne_true | skip
    rename_i c j pos
    cases c <;> first | exact absurd hm Bool.false_ne_true | skip
    have e := of_decide_eq_true hm
    subst e
    exact pe_str.wk fun σ H Q ⟨m, l, h, rh, rl, q⟩ => LQ.at q rh rfl
  | .bl i, X, N, sc, W, x, g, hm => by
    cases x <;> first | exact absurd hm Bool.false_ne_true | skip
    rename_i c j pos
    cases c <;> first | exact absurd hm Bool.false_ne_true | skip
    have e := of_decide_eq_true hm
    subst e
    exact pe_bl.wk fun σ H Q ⟨m, l, h, rh, rl, q⟩ => LQ.at q rh rfl
  | .non, X, N, sc, W, x, g, hm => by
    cases x <;> first | exact absurd hm Bool.false_ne_true | skip
    rename_i c j pos
    cases c <;> first | exact absurd hm Bool.false_ne_true | skip
    exact pe_non.wk fun σ H Q ⟨m, l, h, rh, rl, q⟩ => LQ.at q rh rfl
  | .glob i, X, N, sc, W, x, g, hm => by
    cases x <;> first | exact absurd hm Bool.false_ne_true | skip
    rename_i id pos
    obtain ⟨h1, h2⟩ := ba hm
    have e := of_decide_eq_true h1
    subst e
    obtain ⟨g1, g2⟩ := gl_of g h2
    cases hc : M.G.con i with
    | none =>
      refine ⟨fun pins s σ H Q I q => ?_⟩
      obtain ⟨m, l, h, rh, rl, v, e, q⟩ := q
      rw [hc] at e; cases e
    | some v =>
      obtain ⟨u, w, hmg, ru, rv⟩ := g.glo.con i v hc
      refine (pe_glob g1 hmg ru g2).wk fun σ H Q q => ?_
      obtain ⟨m, l, h, rh, rl, v', e, q⟩ := q
      rw [hc] at e; cases e
      exact q.at rh (rv H m)
  | .bin o a b, X, N, sc, W, x, g, hm => by
    cases x <;> first | exact absurd hm Bool.false_ne_true | skip
    obtain ⟨h12, h3⟩ := ba hm
    obtain ⟨h1, h2⟩ := ba h12
    have e := of_decide_eq_true h1
    subst e
    refine (pe_op (sB g.hK o) (sE a X N sc W _ g h2) (sE b X N sc W _ g h3)).wk fun σ H Q q => ?_
    obtain ⟨m, l, h, rh, rl, q⟩ := q
    refine tE_in rh rl (fun _ _ z => z) q fun m1 H1 v w h1 e1 k1 rh1 rl1 rv1 q1 => ?_
    refine tE_in rh1 rl1 (LX.mono e1 k1) q1 fun m2 H2 u w2 h2 e2 k2 rh2 rl2 rv2 q2 => ?_
    exact ⟨m2, h2, v, u, rh2, rv1.mono k2 e2, rv2, binV_mono (LQ.mono (e1.trans e2) (k1.trans k2)) q2⟩
  | .neg a, X, N, sc, W, x, g, hm => by
    cases x <;> first | exact absurd hm Bool.false_ne_true | skip
    rename_i op y pos
    cases op <;> first | exact absurd hm Bool.false_ne_true | skip
    refine (pe_un un_neg (sE a X N sc W _ g hm)).wk fun σ H Q q => ?_
    obtain ⟨m, l, h, rh, rl, q⟩ := q
    refine tE_in rh rl (fun _ _ z => z) q fun m1 H1 v w h1 e1 k1 rh1 rl1 rv1 q1 => ?_
    obtain ⟨i, rfl, q1⟩ := q1
    exact ⟨i, rv1, (LQ.mono e1 k1 _ _ q1).at rh1 rfl⟩
  | .nt a, X, N, sc, W, x, g, hm => by
    cases x <;> first | exact absurd hm Bool.false_ne_true | skip
    rename_i op y pos
    cases op <;> first | exact absurd hm Bool.false_ne_true | skip
    refine (pe_not (sE a X N sc W _ g hm)).wk fun σ H Q q => ?_
    obtain ⟨m, l, h, rh, rl, q⟩ := q
    refine tE_in rh rl (fun _ _ z => z) q fun m1 H1 v w h1 e1 k1 rh1 rl1 rv1 q1 => ?_
    obtain ⟨i, rfl, q1⟩ := q1
    exact ⟨i, rv1, (LQ.mono e1 k1 _ _ q1).at rh1 rfl⟩
  | .and a b, X, N, sc, W, x, g, hm => by
    cases x <;> first | exact absurd hm Bool.false_ne_true | skip
    rename_i op xs pos
    cases op <;> first | exact absurd hm Bool.false_ne_true | skip
    match xs, hm with
    | [], hm => exact absurd hm Bool.false_ne_true
    | [_], hm => exact absurd hm Bool.false_ne_true
    | y :: z :: r, hm =>
      obtain ⟨h1, h2⟩ := ba hm
      have hb : PE X (.BoolOp .And (z :: r) pos) (tE M W fun Y => evE M.G (callS M.G k) Y b) := by
        cases r with
        | nil => exact pe_one (sE b X N sc W _ g h2)
        | cons z' r' => exact sE b X N sc W _ g h2
      refine (pe_and (sE a X N sc W _ g h1) hb).wk fun σ H Q q => ?_
      obtain ⟨m, l, h, rh, rl, q⟩ := q
      refine tE_in rh rl (fun _ _ z => z) q fun m1 H1 v w h1 e1 k1 rh1 rl1 rv1 q1 => ?_
      obtain ⟨i, rfl, q1⟩ := q1
      refine ⟨i, rv1, ?_⟩
      cases i with
      | true => exact tE_in rh1 rl1 (LX.mono e1 k1) q1 fun m2 H2 u w2 h2 e2 k2 rh2 rl2 rv2 q2 => (LQ.mono (e1.trans e2) (k1.trans k2) _ _ q2).at rh2 rv2
      | false => exact (LQ.mono e1 k1 _ _ q1).at rh1 rfl
  | .or a b, X, N, sc, W, x, g, hm => by
    cases x <;> first | exact absurd hm Bool.false_ne_true | skip
    rename_i op xs pos
    cases op <;> first | exact absurd hm Bool.false_ne_true | skip
    match xs, hm with
    | [], hm => exact absurd hm Bool.false_ne_true
    | [_], hm => exact absurd hm Bool.false_ne_true
    | y :: z :: r, hm =>
      obtain ⟨h1, h2⟩ := ba hm
      have hb : PE X (.BoolOp .Or (z :: r) pos) (tE M W fun Y => evE M.G (callS M.G k) Y b) := by
        cases r with
        | nil => exact pe_one (sE b X N sc W _ g h2)
        | cons z' r' => exact sE b X N sc W _ g h2
      refine (pe_or (sE a X N sc W _ g h1) hb).wk fun σ H Q q => ?_
      obtain ⟨m, l, h, rh, rl, q⟩ := q
      refine tE_in rh rl (fun _ _ z => z) q fun m1 H1 v w h1 e1 k1 rh1 rl1 rv1 q1 => ?_
      obtain ⟨i, rfl, q1⟩ := q1
      refine ⟨i, rv1, ?_⟩
      cases i with
      | false => exact tE_in rh1 rl1 (LX.mono e1 k1) q1 fun m2 H2 u w2 h2 e2 k2 rh2 rl2 rv2 q2 => (LQ.mono (e1.trans e2) (k1.trans k2) _ _ q2).at rh2 rv2
      | true => exact (LQ.mono e1 k1 _ _ q1).at rh1 rfl
  | .cmp o a b, X, N, sc, W, x, g, hm => by
    cases x <;> first | exact absurd hm Bool.false_ne_true | skip
    rename_i y ops zs pos
    match ops, zs, hm with
    | [], _, hm => exact absurd hm Bool.false_ne_true
    | [_], [], hm => exact absurd hm Bool.false_ne_true
    | [_], _ :: _ :: _, hm => exact absurd hm Bool.false_ne_true
    | _ :: _ :: _, _, hm => exact absurd hm Bool.false_ne_true
    | [p], [z], hm =>
      obtain ⟨h123, h4⟩ := ba hm
      obtain ⟨h12, h3⟩ := ba h123
      obtain ⟨h1, h2⟩ := ba h12
      have e := of_decide_eq_true h1
      subst e
      refine (pe_cmpR (sC g.hK g.room.units o) (sE a X N sc W _ g h3) (sE b X N sc W _ g h4) (nb h2)).wk fun σ H Q q => ?_
      obtain ⟨m, l, h, rh, rl, q⟩ := q
      refine tE_in rh rl (fun _ _ z => z) q fun m1 H1 v w h1 e1 k1 rh1 rl1 rv1 q1 => ?_
      refine tE_in rh1 rl1 (LX.mono e1 k1) q1 fun m2 H2 u w2 h2 e2 k2 rh2 rl2 rv2 q2 => ?_
      refine ⟨m2, h2, v, u, rh2, rv1.mono k2 e2, rv2, cmpV_mono (fun r h3 q3 m3 H3 e3 k3 rh3 => ?_) q2⟩
      exact q3 m3 H3 _ ((e1.trans e2).trans e3) ((k1.trans k2).trans k3) rh3 rfl
  | .chain o o' a b c, X, N, sc, W, x, g, hm => by
    cases x <;> first | exact absurd hm Bool.false_ne_true | skip
    rename_i y ops zs pos
    match ops, zs, hm with
    | [], _, hm => exact absurd hm Bool.false_ne_true
    | [_], _, hm => exact absurd hm Bool.false_ne_true
    | _ :: _ :: _ :: _, _, hm => exact absurd hm Bool.false_ne_true
    | [_, _], [], hm => exact absurd hm Bool.false_ne_true
    | [_, _], [_], hm => exact absurd hm Bool.false_ne_true
    | [_, _], _ :: _ :: _ :: _, hm => exact absurd hm Bool.false_ne_true
    | [p, p'], [z, z'], hm =>
      obtain ⟨h12345, h6⟩ := ba hm
      obtain ⟨h1234, h5⟩ := ba h12345
      obtain ⟨h123, h4⟩ := ba h1234
      obtain ⟨h12, h3⟩ := ba h123
      obtain ⟨h1, h2⟩ := ba h12
      have e := of_decide_eq_true h1
      have e' := of_decide_eq_true h2
      subst e; subst e'
      refine (pe_chain (sC g.hK g.room.units o) (sC g.hK g.room.units o') (sE a X N sc W _ g h4) (sE b X N sc W _ g h5) (sE c X N sc W _ g h6) (nb h3)).wk fun σ H Q q => ?_
      obtain ⟨m, l, h, rh, rl, q⟩ := q
      refine tE_in rh rl (fun _ _ z => z) q fun m1 H1 v w h1 e1 k1 rh1 rl1 rv1 q1 => ?_
      refine tE_in rh1 rl1 (LX.mono e1 k1) q1 fun m2 H2 u w2 h2 e2 k2 rh2 rl2 rv2 q2 => ?_
      refine ⟨m2, h2, v, u, rh2, rv1.mono k2 e2, rv2, cmpV_mono (fun r h3 q3 m3 H3 e3 k3 rh3 => ?_) q2⟩
      refine ⟨r, rfl, ?_⟩
      have e13 := (e1.trans e2).trans e3
      have k13 := (k1.trans k2).trans k3
      cases r with
      | false => exact q3 m3 H3 _ e13 k13 rh3 rfl
      | true =>
        refine tE_in rh3 (rl2.mono k3 e3) (LX.mono e13 k13) q3 fun m4 H4 u4 w4 h4 e4 k4 rh4 rl4 rv4 q4 => ?_
        refine ⟨m4, h4, u, u4, rh4, rv2.mono (k3.trans k4) (e3.trans e4), rv4, cmpV_mono (fun r h5 q5 m5 H5 e5 k5 rh5 => ?_) q4⟩
        exact q5 m5 H5 _ ((e13.trans e4).trans e5) ((k13.trans k4).trans k5) rh5 rfl
  | .ite c a b, X, N, sc, W, x, g, hm => by
    cases x <;> first | exact absurd hm Bool.false_ne_true | skip
    obtain ⟨h12, h3⟩ := ba hm
    obtain ⟨h1, h2⟩ := ba h12
    refine (pe_ifExp (sT c X N sc W _ g h1).1 (sE a X N sc W _ g h2) (sE b X N sc W _ g h3)).wk fun σ H Q q => ?_
    obtain ⟨m, l, h, rh, rl, q⟩ := q
    refine tT_in rh rl (fun _ _ z => z) q fun m1 H1 r h1 e1 k1 rh1 rl1 q1 => ?_
    cases r with
    | true => exact tE_in rh1 rl1 (LX.mono e1 k1) q1 fun m2 H2 u w2 h2 e2 k2 rh2 rl2 rv2 q2 => (LQ.mono (e1.trans e2) (k1.trans k2) _ _ q2).at rh2 rv2
    | false => exact tE_in rh1 rl1 (LX.mono e1 k1) q1 fun m2 H2 u w2 h2 e2 k2 rh2 rl2 rv2 q2 => (LQ.mono (e1.trans e2) (k1.trans k2) _ _ q2).at rh2 rv2
  | .tup es, X, N, sc, W, x, g, hm => by
    cases x <;> first | exact absurd hm Bool.false_ne_true | skip
    refine (pe_tup (sEs es X N sc W _ g hm)).wk fun σ H Q q => ?_
    obtain ⟨m, l, h, rh, rl, q⟩ := q
    refine tA_in rh rl (fun _ _ z => z) q fun m1 H1 v w h1 e1 k1 rh1 rl1 rv1 q1 => ?_
    refine ⟨by rw [← rv1.len]; exact q1.1, fun p hp => ?_⟩
    exact q1.2 m1 (upd H1 p (.tup w)) _ e1 (k1.trans (Kp.upd_new hp)) (rh1.tup hp) ⟨p, w, rfl, .inl (.inl upd_same), rv1.mono (Kp.upd_new hp) (Ex.refl m1) _ _⟩
  | .lst es, X, N, sc, W, x, g, hm => by
    cases x <;> first | exact absurd hm Bool.false_ne_true | skip
    refine (pe_lst (sEs es X N sc W _ g hm)).wk fun σ H Q q => ?_
    obtain ⟨m, l, h, rh, rl, q⟩ := q
    refine tA_in rh rl (fun _ _ z => z) q fun m1 H1 v w h1 e1 k1 rh1 rl1 rv1 q1 => ?_
    refine ⟨by rw [← rv1.len]; exact q1.1, ?_⟩
    exact (LQ.mono e1 k1 _ _ q1.2).new rh1 rfl fun p hp => ⟨w, upd_same, rv1.mono (Kp.upd_new hp) (Ex.app m1 p) _ _⟩
  | .idx a b, X, N, sc, W, x, g, hm => by
    cases x <;> first | exact absurd hm Bool.false_ne_true | skip
    rename_i y z pos
    have hm' : (mE M.toMe N sc a y && mE M.toMe N sc b z) = true := by
      cases z <;> exact hm
    obtain ⟨h1, h2⟩ := ba hm'
    refine (pe_ix (sIx_ g.hK (by have := g.room.un; omega)) (sE a X N sc W _ g h1) (sE b X N sc W _ g h2) (plainIx_of h2)).wk fun σ H Q q => ?_
    obtain ⟨m, l, h, rh, rl, q⟩ := q
    refine tE_in rh rl (fun _ _ z => z) q fun m1 H1 v w h1 e1 k1 rh1 rl1 rv1 q1 => ?_
    refine tE_in rh1 rl1 (LX.mono e1 k1) q1 fun m2 H2 u w2 h2 e2 k2 rh2 rl2 rv2 q2 => ?_
    exact ⟨m2, h2, v, u, rh2, rv1.mono k2 e2, rv2, idxV_mono (LQ.mono (e1.trans e2) (k1.trans k2)) q2⟩
  | .slc a lo hi, X, N, sc, W, x, g, hm => by
    cases x <;> first | exact absurd hm Bool.false_ne_true | skip
    rename_i y z pos
    cases z <;> first | exact absurd hm Bool.false_ne_true | skip
    rename_i l u st p2
    cases st <;> first | exact absurd hm Bool.false_ne_true | skip
    obtain ⟨h12, h3⟩ := ba hm
    obtain ⟨h1, h2⟩ := ba h12
    refine (pe_slice (sSl g.hK) (sE a X N sc W _ g h1) (sO lo X N sc W _ g h2) (sO hi X N sc W _ g h3)).wk fun σ H Q q => ?_
    obtain ⟨m, l, h, rh, rl, q⟩ := q
    refine tE_in rh rl (fun _ _ z => z) q fun m1 H1 v w h1 e1 k1 rh1 rl1 rv1 q1 => ?_
    refine tO_in rh1 rl1 (LX.mono e1 k1) q1 fun m2 H2 u h2 e2 k2 rh2 rl2 q2 => ?_
    refine tO_in rh2 rl2 (LX.mono (e1.trans e2) (k1.trans k2)) q2 fun m3 H3 u3 h3 e3 k3 rh3 rl3 q3 => ?_
    exact ⟨m3, h3, v, rh3, rv1.mono (k2.trans k3) (e2.trans e3), slcV_mono (LQ.mono ((e1.trans e2).trans e3) ((k1.trans k2).trans k3)) q3⟩
  | .call f es, X, N, sc, W, x, g, hm => by
    cases x <;> first | exact absurd hm Bool.false_ne_true | skip
    rename_i fn xs kw pos
    cases fn <;> first | exact absurd hm Bool.false_ne_true | skip
    rename_i id p
    cases kw <;> first | exact absurd hm Bool.false_ne_true | skip
    obtain ⟨h01, h234⟩ := ba hm
    obtain ⟨h1, h0⟩ := ba h01
    obtain ⟨h2, h34⟩ := ba h234
    obtain ⟨h3, h4⟩ := ba h34
    have e := of_decide_eq_true h2
    obtain ⟨g1, g2⟩ := gl_of g h3
    obtain ⟨d, hf⟩ := Option.isSome_iff_exists.mp h0
    refine (pe_callG g hf e.symm h1 g1 g2 h4 (sEs es X N sc W _ g h4) (fun hx σ H Q q => ?_)).wk fun σ H Q q => ?_
    · subst hx
      cases es with
      | nil => obtain ⟨m, l, h, rh, rl, q⟩ := q; exact q m H [] (Ex.refl m) (Kp.refl _ H) rh rfl
      | cons _ _ => exact absurd h4 Bool.false_ne_true
    · obtain ⟨m, l, h, rh, rl, q⟩ := q
      refine tA_in rh rl (fun _ _ z => z) q fun m1 H1 v w h1 e1 k1 rh1 rl1 rv1 q1 => ?_
      exact call_sp hf rh1 rv1 (callS_mono (LQ.mono e1 k1) (LX.mono e1 k1) q1)
  | .isi f a, X, N, sc, W, x, g, hm => by
    cases x <;> first | exact absurd hm Bool.false_ne_true | skip
    rename_i fn xs kw pos
    cases fn <;> first | exact absurd hm Bool.false_ne_true | skip
    rename_i id p
    match xs, kw, hm with
    | [], _, hm => exact absurd hm Bool.false_ne_true
    | [_], _, hm => exact absurd hm Bool.false_ne_true
    | _ :: _ :: _ :: _, _, hm => simp [mE] at hm
    | [_, _], _ :: _, hm => simp [mE] at hm
    | [y, z], [], hm =>
      cases z <;> first | exact absurd hm Bool.false_ne_true | skip
      rename_i t tp
      obtain ⟨h12, h3456⟩ := ba hm
      obtain ⟨h1, h2⟩ := ba h12
      obtain ⟨h34, h56⟩ := ba h3456
      obtain ⟨h3, h4⟩ := ba h34
      obtain ⟨h5, h6⟩ := ba h56
      exact sIsT g h1 (of_decide_eq_true h3) (of_decide_eq_true h4) h2 h5 h6 (sE a X N sc W _ g h6)
  | .bf f .nil, X, N, sc, W, x, g, hm => by
    cases x <;> first | exact absurd hm Bool.false_ne_true | simp [mE] at hm
  | .bf f (.cons a r), X, N, sc, W, x, g, hm => by
    cases x <;> first | exact absurd hm Bool.false_ne_true | skip
    rename_i fn xs kw pos
    cases fn <;> first | exact absurd hm Bool.false_ne_true | skip
    rename_i id p
    cases kw <;> first | exact absurd hm Bool.false_ne_true | skip
    obtain ⟨h12, h34⟩ := ba hm
    obtain ⟨h1, h2⟩ := ba h12
    obtain ⟨h3, h4⟩ := ba h34
    cases xs with
    | nil => exact absurd h4 Bool.false_ne_true
    | cons y ys =>
      refine (sBf g f (nb h1) (of_decide_eq_true h3) h2 h4 (sEs (.cons a r) X N sc W _ g h4)).wk fun σ H Q q => ?_
      obtain ⟨m, l, h, rh, rl, q⟩ := q
      refine tA_in rh rl (fun _ _ z => z) q fun m1 H1 v w h1 e1 k1 rh1 rl1 rv1 q1 => ?_
      exact ⟨m1, h1, v, rh1, rv1, bfV_mono (LQ.mono e1 k1) q1⟩
  | .mkK c es e, X, N, sc, W, x, g, hm => by
    cases x <;> first | exact absurd hm Bool.false_ne_true | skip
    rename_i fn xs kw pos
    cases fn <;> first | exact absurd hm Bool.false_ne_true | skip
    rename_i id p
    match kw, hm with
    | [], hm => exact absurd hm Bool.false_ne_true
    | ⟨none, _, _⟩ :: _, hm => exact absurd hm (by simp [mE])
    | ⟨some _, _, _⟩ :: _ :: _, hm => exact absurd hm (by simp [mE])
    | [⟨some kn, z, kp⟩], hm =>
      obtain ⟨h123, h456⟩ := ba hm
      obtain ⟨h12, h3⟩ := ba h123
      obtain ⟨h1, h2⟩ := ba h12
      obtain ⟨h3, h3'⟩ := ba h3
      obtain ⟨h4, h56⟩ := ba h456
      obtain ⟨h5, h6⟩ := ba h56
      have e1 := of_decide_eq_true h3
      subst e1
      obtain ⟨cd, hc⟩ := Option.isSome_iff_exists.mp h1
      cases xs with
      | nil => exact absurd h3' Bool.false_ne_true
      | cons y0 ys => exact pe_mkNG g hc h2 h4 h5 (sEs es X N sc W _ g h5) (sE e X N sc W _ g h6)
  | .dicl ks vs, X, N, sc, W, x, g, hm => by
    cases x <;> first | exact absurd hm Bool.false_ne_true | skip
    rename_i keys xs pos
    obtain ⟨h1234, h5⟩ := ba hm
    obtain ⟨h1, h234⟩ := ba h1234
    obtain ⟨h2, h34⟩ := ba h234
    obtain ⟨h3, h4⟩ := ba h34
    obtain ⟨trs, hp, ht⟩ := sPs vs X N sc W pos xs ks keys g h5
    refine (pe_disp hp h1 (of_decide_eq_true h2) (fun z => by rw [z] at h3; exact absurd h3 Bool.false_ne_true) (of_decide_eq_true h4)).wk fun σ H Q q => ?_
    obtain ⟨m, l, h, rh, rl, q⟩ := q
    intro p hpn
    have q : evEs M.G (callS M.G k) (LX M W σ m H) vs l (h ++ [.dic []]) fun xs h2 => h2[h.length]? = some (.dic []) ∧ xs.length = ks.length ∧ ks.length ≤ 15 ∧ LQ M m H Q (.ref h.length) (h2.set h.length (.dic (mergeD [] ks xs))) := q
    have rh1 : RH M (upd H p (.dK [])) (m ++ [p]) (h ++ [.dic []]) := rh.new (o := .dic []) hpn ⟨[], upd_same, rfl⟩ rfl
    have k1 : Kp M.K H (upd H p (.dK [])) := Kp.upd_new hpn
    have e1 : Ex m (m ++ [p]) := Ex.app m p
    refine ht σ _ _ ⟨m ++ [p], l, h ++ [.dic []], rh1, rl.mono k1 e1, evEs_mono (csle M k) (LX.mono e1 k1) vs _ _ _ _ (fun ws h2 q2 m2 H2 zs e2 k2 rh2 rv2 => ?_) q⟩
    obtain ⟨q1, q3, q4, q5⟩ := q2
    have ep : m2[h.length]? = some p := e2 _ _ (by rw [← rh.len]; simp)
    obtain ⟨ks0, a1, a2⟩ := rh2.obj _ _ _ q1 ep
    cases (show ks0 = [] from a2)
    have zl := rv2.len
    refine ⟨a1, (ks.zip zs).map fun kv => (.inr kv.1, kv.2), ?_, ?_, ?_⟩
    · exact zip_kv ks zs
    · rw [List.length_map, List.length_zip]; omega
    · have kk : Kp M.K H2 (upd H2 p (.dK (mergeK [] ((ks.zip zs).map fun kv => (.inr kv.1, kv.2))))) := Kp.upd_old a1 rfl
      have rk : RKs M.K H2 m2 (mergeD [] ks ws) (mergeK [] ((ks.zip zs).map fun kv => (.inr kv.1, kv.2))) := merge_of ks ws zs [] [] rfl rv2
      have put := rh2.put (u := .dK (mergeK [] ((ks.zip zs).map fun kv => (.inr kv.1, kv.2)))) (o := .dic (mergeD [] ks ws)) q1 ep rfl rfl ⟨_, upd_same, rk.mono kk (Ex.refl m2)⟩
      exact q5 m2 _ (.ref p) (e1.trans e2) ((k1.trans k2).trans kk) put.1 ⟨p, ep, rfl⟩
  | .slr a, X, N, sc, W, x, g, hm => by
    cases x <;> first | exact absurd hm Bool.false_ne_true | skip
    rename_i y z pos
    cases z <;> first | exact absurd hm Bool.false_ne_true | skip
    rename_i l u st p2
    cases l <;> first | exact absurd hm Bool.false_ne_true | skip
    cases u <;> first | exact absurd hm Bool.false_ne_true | skip
    cases st <;> first | exact absurd hm Bool.false_ne_true | skip
    rename_i st
    cases st <;> first | exact absurd hm Bool.false_ne_true | skip
    rename_i op st p3
    cases op <;> first | exact absurd hm Bool.false_ne_true | skip
    cases st <;> first | exact absurd hm Bool.false_ne_true | skip
    rename_i cst k4 p4
    cases cst <;> first | exact absurd hm Bool.false_ne_true | skip
    obtain ⟨h1, h2⟩ := ba hm
    have e1 := of_decide_eq_true h1
    subst e1
    refine (pe_revL (sE a X N sc W _ g h2)).wk fun σ H Q q => ?_
    obtain ⟨m, l, h, rh, rl, q⟩ := q
    refine tE_in rh rl (fun _ _ z => z) q fun m1 H1 v w h1 e1 k1 rh1 rl1 rv1 q1 => ?_
    obtain ⟨p, xs, rfl, e2, q1⟩ := q1
    obtain ⟨pa, vs, rfl, e3, e4⟩ := lstOf_get rh1 rv1 e2
    exact ⟨pa, vs, rfl, by rw [g.hK]; exact e3, (LQ.mono e1 k1 _ _ q1).new rh1 rfl fun p2 hp2 => ⟨_, upd_same, e4.rev.mono (Kp.upd_new hp2) (Ex.app m1 p2) _ _⟩⟩
  | .dic0, X, N, sc, W, x, g, hm => by
    cases x <;> first | exact absurd hm Bool.false_ne_true | skip
    rename_i ks vs pos
    match ks, vs, hm with
    | [], [], hm =>
      refine pe_dnewK.wk fun σ H Q q => ?_
      obtain ⟨m, l, h, rh, rl, q⟩ := q
      exact LQ.new q rh rfl fun p hp => ⟨[], upd_same, rfl⟩
    | _ :: _, _, hm => exact absurd hm Bool.false_ne_true
    | [], _ :: _, hm => exact absurd hm Bool.false_ne_true
  | .dget o a b, X, N, sc, W, x, g, hm => by
    cases x <;> first | exact absurd hm Bool.false_ne_true | skip
    rename_i fn xs kw pos
    cases fn <;> first | exact absurd hm Bool.false_ne_true | skip
    rename_i y name p
    match xs, kw, hm with
    | [z, w], [], hm =>
      obtain ⟨h12, h3456⟩ := ba hm
      obtain ⟨h1, h2⟩ := ba h12
      obtain ⟨h3, h456⟩ := ba h3456
      obtain ⟨h4, h56⟩ := ba h456
      obtain ⟨h5, h6⟩ := ba h56
      have e := of_decide_eq_true h1
      subst e
      have tr : backTo pos (starEach [z, w] X.env) = [(false, eval z X.env), (false, eval w X.env)] := by rw [star_of h5 X.env, star_of h6 X.env] <;> rfl
      refine (pe_dget2 (apos := p) (cpos := pos) (by have := g.room.un; omega) (sE o X N sc W y g h4) (sE a X N sc W z g h5) (sE b X N sc W w g h6) ⟨base_of h3 _ _, by rw [tr] <;> rfl, h2, tr⟩).wk fun σ H Q q => ?_
      obtain ⟨m, l, h, rh, rl, q⟩ := q
      refine tE_in rh rl (fun _ _ z => z) q fun m1 H1 v w h1 e1 k1 rh1 rl1 rv1 q1 => ?_
      obtain ⟨ty, q1⟩ := q1
      obtain ⟨pa, rfl, ks0, e0⟩ := dic_ty rh1 rv1 ty
      refine ⟨pa, rfl, .inl ⟨ks0, .inl e0⟩, ?_⟩
      refine tE_in rh1 rl1 (LX.mono e1 k1) q1 fun m2 H2 u w2 h2 e2 k2 rh2 rl2 rv2 q2 => ?_
      refine tE_in rh2 rl2 (LX.mono (e1.trans e2) (k1.trans k2)) q2 fun m3 H3 u3 w3 h3 e3 k3 rh3 rl3 rv3 q3 => ?_
      obtain ⟨b, kvs, rfl, ed, hk, q3⟩ := q3
      obtain ⟨pb, eb, rv1'⟩ := rv1
      cases rv1'
      obtain ⟨ks, e4, rk⟩ := rh3.obj _ _ _ ed (e3 _ _ (e2 _ _ eb))
      obtain ⟨q', hq, rfl⟩ := isK_of hk rv2
      refine ⟨valV ks q', DGet.k e4, ?_⟩
      have lk := look_of hq rk
      refine ((LQ.mono ((e1.trans e2).trans e3) ((k1.trans k2).trans k3) _ _ q3).at rh3 ?_)
      cases e5 : lookD u kvs <;> cases e6 : valV ks q' <;> rw [e5, e6] at lk <;> first | exact lk.elim | exact rv3 | exact lk
    | [], _, hm => exact absurd hm Bool.false_ne_true
    | [_], _, hm => exact absurd hm Bool.false_ne_true
    | _ :: _ :: _ :: _, _, hm => simp [mE] at hm
    | [_, _], _ :: _, hm => exact absurd hm Bool.false_ne_true
  | .attr a f, X, N, sc, W, x, g, hm => by
    cases x <;> first | exact absurd hm Bool.false_ne_true | skip
    rename_i y nm pos
    obtain ⟨h12, h3⟩ := ba hm
    obtain ⟨h1, h2⟩ := ba h12
    have e := of_decide_eq_true h1
    subst e
    refine (pe_fld (sE a X N sc W y g h3) (base_of h2 _ _)).wk fun σ H Q q => ?_
    obtain ⟨m, l, h, rh, rl, q⟩ := q
    refine tE_in rh rl (fun _ _ z => z) q fun m1 H1 v w h1 e1 k1 rh1 rl1 rv1 q1 => ?_
    obtain ⟨p, c, fs, u, cd, rfl, ep, hc, hf, eg, q1⟩ := q1
    obtain ⟨pa, e2, rfl⟩ := rv1
    obtain ⟨dx, gs, cd', a1, a2, a3, a4, a5⟩ := rh1.obj _ _ _ ep e2
    rw [hc] at a2; cases a2
    have ok := g.cls c cd hc
    have o := a3 f hf
    rw [eg] at o
    cases el : gs.lookup (M.nm f) with
    | none => rw [el] at o; exact o.elim
    | some z =>
      rw [el] at o
      exact ⟨pa, _, dx, gs, z, rfl, a1, by rw [g.hK]; exact ok.cls, by rw [g.hK]; exact ok.noat f (List.contains_iff_mem.mp hf), el, (LQ.mono e1 k1 _ _ q1).at rh1 o⟩
  | .mk c es, X, N, sc, W, x, g, hm => by
    cases x <;> first | exact absurd hm Bool.false_ne_true | skip
    rename_i fn xs kw pos
    cases fn <;> first | exact absurd hm Bool.false_ne_true | skip
    rename_i id p
    cases kw <;> first | exact absurd hm Bool.false_ne_true | skip
    obtain ⟨h1, h234⟩ := ba hm
    obtain ⟨h2, h34⟩ := ba h234
    obtain ⟨h3, h4⟩ := ba h34
    have e := of_decide_eq_true h2
    subst e
    obtain ⟨cd, hc⟩ := Option.isSome_iff_exists.mp h1
    exact pe_mkG g hc h3 h4 (sEs es X N sc W _ g h4)
  | .meth o mm es, X, N, sc, W, x, g, hm => by
    cases x <;> first | exact absurd hm Bool.false_ne_true | skip
    rename_i fn xs kw pos
    cases fn <;> first | exact absurd hm Bool.false_ne_true | skip
    rename_i y name p
    cases kw <;> first | exact absurd hm Bool.false_ne_true | skip
    obtain ⟨h123, h456⟩ := ba hm
    obtain ⟨h1, h23⟩ := ba h123
    obtain ⟨h2, h3⟩ := ba h23
    obtain ⟨h4, h56⟩ := ba h456
    obtain ⟨h5, h6⟩ := ba h56
    have e := of_decide_eq_true h1
    subst e
    exact pe_methG g h2 (of_decide_eq_true h3) h4 (sE o X N sc W _ g h5) h6 (sEs es X N sc W _ g h6)
  | .ini c es, X, N, sc, W, x, g, hm => absurd hm (by cases x <;> exact Bool.false_ne_true)
  | .bm f o es, X, N, sc, W, x, g, hm => by
    cases x <;> first | exact absurd hm Bool.false_ne_true | skip
    rename_i fn xs kw pos
    cases fn <;> first | exact absurd hm Bool.false_ne_true | skip
    rename_i y name p
    cases kw <;> first | exact absurd hm Bool.false_ne_true | skip
    obtain ⟨h123, h456⟩ := ba hm
    obtain ⟨h1, h23⟩ := ba h123
    obtain ⟨h2, h3⟩ := ba h23
    obtain ⟨h4, h56⟩ := ba h456
    obtain ⟨h5, h6⟩ := ba h56
    exact pe_bmM g h1 (of_decide_eq_true h2) h3 h4 (sE o X N sc W _ g h5) h6 (sEs es X N sc W _ g h6)
  | .lc elt t it cond, X, N, sc, W, x, g, hm => by
    cases x <;> first | exact absurd hm Bool.false_ne_true | skip
    rename_i x' gens scope pos
    match gens, hm with
    | [], hm => exact absurd hm Bool.false_ne_true
    | ⟨_, _, _, _⟩ :: ⟨_, _, _, _⟩ :: _, hm => simp [mE] at hm
    | [⟨tg, iter, ifs, ia⟩], hm =>
      obtain ⟨h012, h3456⟩ := ba hm
      obtain ⟨h0, h12⟩ := ba h012
      obtain ⟨h1, h2⟩ := ba h12
      obtain ⟨h3, h456⟩ := ba h3456
      cases (show ia = 0 from beq_iff_eq.mp h0)
      obtain ⟨h4, h56⟩ := ba h456
      obtain ⟨h5, h6⟩ := ba h56
      exact lcp g h1 h2 (sI it X N sc W tg iter g h3) h4 (fun X' W' g' => sOC cond X' N (relB scope sc) W' ifs g' h5) (fun X' W' g' => sE elt X' N (relB scope sc) W' x' g' h6)
theorem sEs : ∀ (e : Es) (X : Cx) (N : List Str) (sc : Sco) (W : WX) (x : List Expr), Good M X N sc W k → mEs M.toMe N sc e x = true → PA X x (tA M W fun Y => evEs M.G (callS M.G k) Y e)
  | .nil, X, N, sc, W, [], g, hm => pa_nil.wk fun σ H Q ⟨m, l, h, rh, rl, q⟩ => q m H [] (Ex.refl m) (Kp.refl _ H) rh rfl
  | .nil, X, N, sc, W, _ :: _, g, hm => absurd hm Bool.false_ne_true
  | .cons _ _, X, N, sc, W, [], g, hm => absurd hm Bool.false_ne_true
  | .cons e es, X, N, sc, W, x :: xs, g, hm => by
    obtain ⟨h1, h2⟩ := ba hm
    refine (pa_cons (sE e X N sc W _ g h1) (sEs es X N sc W _ g h2) (star_of h1 X.env xs)).wk fun σ H Q q => ?_
    obtain ⟨m, l, h, rh, rl, q⟩ := q
    refine tE_in rh rl (fun _ _ z => z) q fun m1 H1 v w h1 e1 k1 rh1 rl1 rv1 q1 => ?_
    refine tA_in rh1 rl1 (LX.mono e1 k1) q1 fun m2 H2 u w2 h2 e2 k2 rh2 rl2 rv2 q2 => ?_
    exact q2 m2 H2 _ (e1.trans e2) (k1.trans k2) rh2 ⟨w, w2, rfl, rv1.mono k2 e2, rv2⟩
theorem sPs : ∀ (e : Es) (X : Cx) (N : List Str) (sc : Sco) (W : WX) (pos : Pos) (x : List Expr) (ks : List Str) (keys : List (Option Expr)), Good M X N sc W k → mPs M.toMe N sc ks e keys x = true →
    ∃ trs, PPs X pos keys x trs ∧ ∀ σ H R, (∃ m l h, RH M H m h ∧ RL M.K H m l σ ∧ evEs M.G (callS M.G k) (LX M W σ m H) e l h (LKs M m H ks R)) → tPairs trs σ H R
  | .nil, X, N, sc, W, pos, x, ks, keys, g, hm => by
    cases ks <;> cases keys <;> cases x <;> first | exact absurd hm Bool.false_ne_true | skip
    exact ⟨[], pps_nil, fun σ H R ⟨m, l, h, rh, rl, q⟩ => q m H [] (Ex.refl m) (Kp.refl _ H) rh rfl⟩
  | .cons e es, X, N, sc, W, pos, x, ks, keys, g, hm => by
    cases ks with
    | nil => exact absurd hm Bool.false_ne_true
    | cons k0 ks =>
    cases keys with
    | nil => exact absurd hm Bool.false_ne_true
    | cons ko keys =>
    cases ko with
    | none => exact absurd hm Bool.false_ne_true
    | some ke =>
    cases ke <;> first | exact absurd hm Bool.false_ne_true | skip
    rename_i cst kk p2
    cases cst <;> first | exact absurd hm Bool.false_ne_true | skip
    cases x with
    | nil => exact absurd hm Bool.false_ne_true
    | cons y ys =>
    obtain ⟨h12, h3⟩ := ba hm
    obtain ⟨h1, h2⟩ := ba h12
    have e1 := of_decide_eq_true h1
    subst e1
    obtain ⟨trs, hp, ht⟩ := sPs es X N sc W pos ys ks keys g h3
    refine ⟨_, pps_cons pe_str (sE e X N sc W y g h2) hp, fun σ H R ⟨m, l, h, rh, rl, q⟩ => ?_⟩
    show tE M W (fun Y => evE M.G (callS M.G k) Y e) σ H fun y' H1 => tPairs trs σ H1 fun ps H2 => R ((.str k0, y') :: ps) H2
    refine tE_in rh rl (fun _ _ z => z) q fun m1 H1 v w h1 e1 k1 rh1 rl1 rv1 q1 => ?_
    exact ht σ H1 _ ⟨m1, l, h1, rh1, rl1, evEs_mono (csle M k) (LX.mono e1 k1) es _ _ _ _ (fun vs h2 q2 m2 H2 ws e2 k2 rh2 rv2 => q2 m2 H2 (w :: ws) (e1.trans e2) (k1.trans k2) rh2 ⟨w, ws, rfl, rv1.mono k2 e2, rv2⟩) q1⟩
theorem sO : ∀ (e : OE) (X : Cx) (N : List Str) (sc : Sco) (W : WX) (x : Option Expr), Good M X N sc W k → mO M.toMe N sc e x = true → L2.PO X x (tOp M W fun Y => evO M.G (callS M.G k) Y e)
  | .no, X, N, sc, W, none, g, hm => (po_none (X := X)).wk fun σ H Q ⟨m, l, h, rh, rl, q⟩ => q m H (Ex.refl m) (Kp.refl _ H) rh
  | .no, X, N, sc, W, some _, g, hm => absurd hm Bool.false_ne_true
  | .so _, X, N, sc, W, none, g, hm => absurd hm Bool.false_ne_true
  | .so e, X, N, sc, W, some x, g, hm => by
    refine (po_some (sE e X N sc W _ g hm)).wk fun σ H Q q => ?_
    obtain ⟨m, l, h, rh, rl, q⟩ := q
    refine tE_in rh rl (fun _ _ z => z) q fun m1 H1 v w h1 e1 k1 rh1 rl1 rv1 q1 => ?_
    obtain ⟨i, rfl, q1⟩ := q1
    exact ⟨i, rv1, q1 m1 H1 e1 k1 rh1⟩
theorem sT : ∀ (e : C) (X : Cx) (N : List Str) (sc : Sco) (W : WX) (x : Expr), Good M X N sc W k → mC M.toMe N sc e x = true → PT X x (tT M W fun Y => evT M.G (callS M.G k) Y e) ∧ ((∃ op ys p, x = .BoolOp op ys p) → PW X x (tT M W fun Y => evT M.G (callS M.G k) Y e))
  | .v e, X, N, sc, W, x, g, hm => by
    have he := isTrue_of (env := X.env) hm
    refine ⟨?_, fun ⟨op, ys, p, e⟩ => by subst e; exact absurd (ba hm).2 Bool.false_ne_true⟩
    refine (pt_truth (sE e X N sc W _ g (ba hm).1) he).wk fun σ H Q q => ?_
    obtain ⟨m, l, h, rh, rl, q⟩ := q
    refine tE_in rh rl (fun _ _ z => z) q fun m1 H1 v w h1 e1 k1 rh1 rl1 rv1 q1 => ?_
    obtain ⟨b, e, q1⟩ := q1
    refine ⟨b, ?_, q1 m1 H1 e1 k1 rh1⟩
    rw [g.hK]
    exact truV_of rh1 rv1 e
  | .cmp o a b, X, N, sc, W, x, g, hm => by
    cases x <;> first | exact absurd hm Bool.false_ne_true | skip
    rename_i y ops zs pos
    match ops, zs, hm with
    | [], _, hm => exact absurd hm Bool.false_ne_true
    | [_], [], hm => exact absurd hm Bool.false_ne_true
    | [_], _ :: _ :: _, hm => exact absurd hm Bool.false_ne_true
    | _ :: _ :: _, _, hm => exact absurd hm Bool.false_ne_true
    | [p], [z], hm =>
      obtain ⟨h123, h4⟩ := ba hm
      obtain ⟨h12, h3⟩ := ba h123
      obtain ⟨h1, h2⟩ := ba h12
      have e := of_decide_eq_true h1
      subst e
      refine ⟨?_, fun ⟨op, ys, p, e⟩ => nomatch e⟩
      refine (pt_cmpR (sC g.hK g.room.units o) (sE a X N sc W _ g h3) (sE b X N sc W _ g h4) (nb h2)).wk fun σ H Q q => ?_
      obtain ⟨m, l, h, rh, rl, q⟩ := q
      refine tE_in rh rl (fun _ _ z => z) q fun m1 H1 v w h1 e1 k1 rh1 rl1 rv1 q1 => ?_
      refine tE_in rh1 rl1 (LX.mono e1 k1) q1 fun m2 H2 u w2 h2 e2 k2 rh2 rl2 rv2 q2 => ?_
      refine ⟨m2, h2, v, u, rh2, rv1.mono k2 e2, rv2, cmpV_mono (fun r h3 q3 m3 H3 e3 k3 rh3 => ?_) q2⟩
      exact ⟨r, rfl, q3 m3 H3 ((e1.trans e2).trans e3) ((k1.trans k2).trans k3) rh3⟩
  | .chain o o' a b c, X, N, sc, W, x, g, hm => by
    cases x <;> first | exact absurd hm Bool.false_ne_true | skip
    rename_i y ops zs pos
    match ops, zs, hm with
    | [], _, hm => exact absurd hm Bool.false_ne_true
    | [_], _, hm => exact absurd hm Bool.false_ne_true
    | _ :: _ :: _ :: _, _, hm => exact absurd hm Bool.false_ne_true
    | [_, _], [], hm => exact absurd hm Bool.false_ne_true
    | [_, _], [_], hm => exact absurd hm Bool.false_ne_true
    | [_, _], _ :: _ :: _ :: _, hm => exact absurd hm Bool.false_ne_true
    | [p, p'], [z, z'], hm =>
      obtain ⟨h12345, h6⟩ := ba hm
      obtain ⟨h1234, h5⟩ := ba h12345
      obtain ⟨h123, h4⟩ := ba h1234
      obtain ⟨h12, h3⟩ := ba h123
      obtain ⟨h1, h2⟩ := ba h12
      have e := of_decide_eq_true h1
      have e' := of_decide_eq_true h2
      subst e; subst e'
      refine ⟨?_, fun ⟨op, ys, p, e⟩ => nomatch e⟩
      refine (pt_chain (sC g.hK g.room.units o) (sC g.hK g.room.units o') (sE a X N sc W _ g h4) (sE b X N sc W _ g h5) (sE c X N sc W _ g h6) (nb h3)).wk fun σ H Q q => ?_
      obtain ⟨m, l, h, rh, rl, q⟩ := q
      refine tE_in rh rl (fun _ _ z => z) q fun m1 H1 v w h1 e1 k1 rh1 rl1 rv1 q1 => ?_
      refine tE_in rh1 rl1 (LX.mono e1 k1) q1 fun m2 H2 u w2 h2 e2 k2 rh2 rl2 rv2 q2 => ?_
      refine ⟨m2, h2, v, u, rh2, rv1.mono k2 e2, rv2, cmpV_mono (fun r h3 q3 m3 H3 e3 k3 rh3 => ?_) q2⟩
      refine ⟨r, rfl, ?_⟩
      have e13 := (e1.trans e2).trans e3
      have k13 := (k1.trans k2).trans k3
      cases r with
      | false => exact ⟨false, rfl, q3 m3 H3 e13 k13 rh3⟩
      | true =>
        refine tE_in rh3 (rl2.mono k3 e3) (LX.mono e13 k13) q3 fun m4 H4 u4 w4 h4 e4 k4 rh4 rl4 rv4 q4 => ?_
        refine ⟨m4, h4, u, u4, rh4, rv2.mono (k3.trans k4) (e3.trans e4), rv4, cmpV_mono (fun r h5 q5 m5 H5 e5 k5 rh5 => ?_) q4⟩
        exact ⟨r, rfl, q5 m5 H5 ((e13.trans e4).trans e5) ((k13.trans k4).trans k5) rh5⟩
  | .nt a, X, N, sc, W, x, g, hm => by
    cases x <;> first | exact absurd hm Bool.false_ne_true | skip
    rename_i op y pos
    cases op <;> first | exact absurd hm Bool.false_ne_true | skip
    refine ⟨?_, fun ⟨op, ys, p, e⟩ => nomatch e⟩
    refine (pt_not (sT a X N sc W _ g hm).1).wk fun σ H Q q => ?_
    obtain ⟨m, l, h, rh, rl, q⟩ := q
    exact tT_in rh rl (fun _ _ z => z) q fun m1 H1 r h1 e1 k1 rh1 rl1 q1 => q1 m1 H1 e1 k1 rh1
  | .and a b, X, N, sc, W, x, g, hm => by
    cases x <;> first | exact absurd hm Bool.false_ne_true | skip
    rename_i op xs pos
    cases op <;> first | exact absurd hm Bool.false_ne_true | skip
    match xs, hm with
    | [], hm => exact absurd hm Bool.false_ne_true
    | [_], hm => exact absurd hm Bool.false_ne_true
    | y :: z :: r, hm =>
      obtain ⟨h1, h2⟩ := ba hm
      have hb : PW X (.BoolOp .And (z :: r) pos) (tT M W fun Y => evT M.G (callS M.G k) Y b) := by
        cases r with
        | nil => exact pw_and1 (sT b X N sc W _ g h2).1
        | cons z' r' => exact (sT b X N sc W _ g h2).2 ⟨_, _, _, rfl⟩
      have hw : PW X (.BoolOp .And (y :: z :: r) pos) (tT M W fun Y => evT M.G (callS M.G k) Y (.and a b)) := by
        refine (pw_and (sT a X N sc W _ g h1).1 hb).wk fun σ H Q q => ?_
        obtain ⟨m, l, h, rh, rl, q⟩ := q
        refine tT_in rh rl (fun _ _ z => z) q fun m1 H1 r h1 e1 k1 rh1 rl1 q1 => ?_
        cases r with
        | true => exact tT_in rh1 rl1 (LX.mono e1 k1) q1 fun m2 H2 r h2 e2 k2 rh2 rl2 q2 => q2 m2 H2 (e1.trans e2) (k1.trans k2) rh2
        | false => exact q1 m1 H1 e1 k1 rh1
      exact ⟨hw.pt, fun _ => hw⟩
  | .or a b, X, N, sc, W, x, g, hm => by
    cases x <;> first | exact absurd hm Bool.false_ne_true | skip
    rename_i op xs pos
    cases op <;> first | exact absurd hm Bool.false_ne_true | skip
    match xs, hm with
    | [], hm => exact absurd hm Bool.false_ne_true
    | [_], hm => exact absurd hm Bool.false_ne_true
    | y :: z :: r, hm =>
      obtain ⟨h1, h2⟩ := ba hm
      have hb : PW X (.BoolOp .Or (z :: r) pos) (tT M W fun Y => evT M.G (callS M.G k) Y b) := by
        cases r with
        | nil => exact pw_or1 (sT b X N sc W _ g h2).1
        | cons z' r' => exact (sT b X N sc W _ g h2).2 ⟨_, _, _, rfl⟩
      have hw : PW X (.BoolOp .Or (y :: z :: r) pos) (tT M W fun Y => evT M.G (callS M.G k) Y (.or a b)) := by
        refine (pw_or (sT a X N sc W _ g h1).1 hb).wk fun σ H Q q => ?_
        obtain ⟨m, l, h, rh, rl, q⟩ := q
        refine tT_in rh rl (fun _ _ z => z) q fun m1 H1 r h1 e1 k1 rh1 rl1 q1 => ?_
        cases r with
        | false => exact tT_in rh1 rl1 (LX.mono e1 k1) q1 fun m2 H2 r h2 e2 k2 rh2 rl2 q2 => q2 m2 H2 (e1.trans e2) (k1.trans k2) rh2
        | true => exact q1 m1 H1 e1 k1 rh1
      exact ⟨hw.pt, fun _ => hw⟩
theorem sOC : ∀ (e : OC) (X : Cx) (N : List Str) (sc : Sco) (W : WX) (x : List Expr), Good M X N sc W k → mOC M.toMe N sc e x = true → PTs X x (tT M W fun Y => evC M.G (callS M.G k) Y e)
  | .no, X, N, sc, W, [], g, hm => pts_wk pts_nil fun σ H Q ⟨m, l, h, rh, rl, q⟩ => q m H (Ex.refl m) (Kp.refl _ H) rh
  | .no, X, N, sc, W, _ :: _, g, hm => absurd hm Bool.false_ne_true
  | .so _, X, N, sc, W, [], g, hm => absurd hm Bool.false_ne_true
  | .so _, X, N, sc, W, _ :: _ :: _, g, hm => absurd hm Bool.false_ne_true
  | .so e, X, N, sc, W, [x], g, hm => pts_wk (pts_one (sT e X N sc W x g hm).1) fun σ H Q q => q
theorem sI : ∀ (it : I) (X : Cx) (N : List Str) (sc : Sco) (W : WX) (tg x : Expr), Good M X N sc W k → mI M.toMe N sc tg it x = true → PI X tg x (tI M W fun Y => evI M.G (callS M.G k) Y it) ∧ notSet x = true
  | .seq a, X, N, sc, W, tg, x, g, hm => by
    obtain ⟨h1, h2⟩ := ba hm
    exact ⟨pi_seq g (sE a X N sc W x g h1), h2⟩
  | .rng1 a, X, N, sc, W, tg, x, g, hm => by
    cases x <;> first | exact absurd hm Bool.false_ne_true | skip
    rename_i fn xs kw pos
    cases fn <;> first | exact absurd hm Bool.false_ne_true | skip
    rename_i id p
    match xs, kw, hm with
    | [], _, hm => exact absurd hm Bool.false_ne_true
    | _ :: _ :: _, _, hm => simp [mI] at hm
    | [_], _ :: _, hm => simp [mI] at hm
    | [y], [], hm =>
      obtain ⟨h12, h3⟩ := ba hm
      obtain ⟨h1, h2⟩ := ba h12
      have e := of_decide_eq_true h1
      subst e
      obtain ⟨g1, g2⟩ := gl_of g h2
      refine ⟨(pi_range1 g1 (g.glo.free _ (blt_in (.inl rfl))) (pa_cons (sE a X N sc W y g h3) pa_nil (star_of h3 X.env _)) (star_of h3 X.env _)).wk fun σ H R q => ?_, rfl⟩
      obtain ⟨m, l, h, rh, rl, q⟩ := q
      refine tE_in rh rl (fun _ _ z => z) q fun m1 H1 v w h1 e1 k1 rh1 rl1 rv1 q1 => ?_
      obtain ⟨j, rfl, q2, q3⟩ := q1
      cases (show w = .int j from rv1)
      exact ⟨j, rfl, q2.1, q2.2, q3 m1 H1 _ e1 k1 rh1 wk_range⟩
  | .rng2 a b, X, N, sc, W, tg, x, g, hm => by
    cases x <;> first | exact absurd hm Bool.false_ne_true | skip
    rename_i fn xs kw pos
    cases fn <;> first | exact absurd hm Bool.false_ne_true | skip
    rename_i id p
    match xs, kw, hm with
    | [], _, hm => exact absurd hm Bool.false_ne_true
    | [_], _, hm => exact absurd hm Bool.false_ne_true
    | _ :: _ :: _ :: _, _, hm => simp [mI] at hm
    | [_, _], _ :: _, hm => simp [mI] at hm
    | [y, z], [], hm =>
      obtain ⟨h12, h34⟩ := ba hm
      obtain ⟨h1, h2⟩ := ba h12
      obtain ⟨h3, h4⟩ := ba h34
      have e := of_decide_eq_true h1
      subst e
      obtain ⟨g1, g2⟩ := gl_of g h2
      refine ⟨(pi_range2 g1 (g.glo.free _ (blt_in (.inl rfl))) (pa_cons (sE a X N sc W y g h3) (pa_cons (sE b X N sc W z g h4) pa_nil (star_of h4 X.env _)) (star_of h3 X.env _)) (by rw [star_of h3 X.env, star_of h4 X.env] <;> rfl) (star_of h4 X.env _)).wk fun σ H R q => ?_, rfl⟩
      obtain ⟨m, l, h, rh, rl, q⟩ := q
      refine tE_in rh rl (fun _ _ z => z) q fun m1 H1 v w h1 e1 k1 rh1 rl1 rv1 q1 => ?_
      refine tE_in rh1 rl1 (LX.mono e1 k1) q1 fun m2 H2 u w2 h2 e2 k2 rh2 rl2 rv2 q2 => ?_
      obtain ⟨i, j, rfl, rfl, q3, q4⟩ := q2
      cases (show w = .int i from rv1)
      cases (show w2 = .int j from rv2)
      exact ⟨i, j, rfl, q3, q4 m2 H2 _ (e1.trans e2) (k1.trans k2) rh2 wk_range⟩
  | .enu a, X, N, sc, W, tg, x, g, hm => by
    cases x <;> first | exact absurd hm Bool.false_ne_true | skip
    rename_i fn xs kw pos
    cases fn <;> first | exact absurd hm Bool.false_ne_true | skip
    rename_i id p
    match xs, kw, hm with
    | [], _, hm => exact absurd hm Bool.false_ne_true
    | _ :: _ :: _, _, hm => simp [mI] at hm
    | [_], _ :: _, hm => simp [mI] at hm
    | [y], [], hm =>
      obtain ⟨h12, h34⟩ := ba hm
      obtain ⟨h1, h2⟩ := ba h12
      obtain ⟨h3, h4⟩ := ba h34
      have e := of_decide_eq_true h1
      subst e
      obtain ⟨g1, g2⟩ := gl_of g h2
      cases tg <;> first | exact absurd h4 Bool.false_ne_true | skip
      refine ⟨(pi_enum g1 (g.glo.free _ (blt_in (.inr (.inl rfl)))) (pa_cons (sE a X N sc W y g h3) pa_nil (star_of h3 X.env _)) (star_of h3 X.env _)).wk fun σ H R q => ?_, rfl⟩
      obtain ⟨m, l, h, rh, rl, q⟩ := q
      refine tE_in rh rl (fun _ _ z => z) q fun m1 H1 v w h1 e1 k1 rh1 rl1 rv1 q1 => ?_
      obtain ⟨zs, q2, q3⟩ := q1
      obtain ⟨p, vs, rfl, e3, e4⟩ := lstOf_get rh1 rv1 q2
      exact ⟨p, vs, rfl, by rw [g.hK]; exact e3, by rw [g.hK]; exact q3 m1 H1 _ e1 k1 rh1 (wk_enum rv1 (lst_ref q2))⟩
  | .zip2 a b, X, N, sc, W, tg, x, g, hm => by
    cases x <;> first | exact absurd hm Bool.false_ne_true | skip
    rename_i fn xs kw pos
    cases fn <;> first | exact absurd hm Bool.false_ne_true | skip
    rename_i id p
    match xs, kw, hm with
    | [], _, hm => exact absurd hm Bool.false_ne_true
    | [_], _, hm => exact absurd hm Bool.false_ne_true
    | _ :: _ :: _ :: _, _, hm => simp [mI] at hm
    | [_, _], _ :: _, hm => simp [mI] at hm
    | [y, z], [], hm =>
      obtain ⟨h12, h345⟩ := ba hm
      obtain ⟨h1, h2⟩ := ba h12
      obtain ⟨h34, h5⟩ := ba h345
      obtain ⟨h3, h4⟩ := ba h34
      have e := of_decide_eq_true h1
      subst e
      obtain ⟨g1, g2⟩ := gl_of g h2
      cases tg <;> first | exact absurd h5 Bool.false_ne_true | skip
      refine ⟨(pi_zip g1 (g.glo.free _ (blt_in (.inr (.inr (.inl rfl))))) (pa_cons (sE a X N sc W y g h3) (pa_cons (sE b X N sc W z g h4) pa_nil (star_of h4 X.env _)) (star_of h3 X.env _)) (star_of h3 X.env _) (by rw [star_of h4 X.env] <;> rfl)).wk fun σ H R q => ?_, rfl⟩
      obtain ⟨m, l, h, rh, rl, q⟩ := q
      refine tE_in rh rl (fun _ _ z => z) q fun m1 H1 v w h1 e1 k1 rh1 rl1 rv1 q1 => ?_
      refine tE_in rh1 rl1 (LX.mono e1 k1) q1 fun m2 H2 u w2 h2 e2 k2 rh2 rl2 rv2 q2 => ?_
      obtain ⟨xs, ys, q3, q4, q5⟩ := q2
      have rv1' := rv1.mono k2 e2
      obtain ⟨p, vs, rfl, e3, e4⟩ := lstOf_get rh2 rv1' q3
      obtain ⟨p', ws, rfl, e5, e6⟩ := lstOf_get rh2 rv2 q4
      exact ⟨p, p', vs, ws, rfl, by rw [g.hK]; exact e3, by rw [g.hK]; exact e5, by rw [g.hK]; exact q5 m2 H2 _ (e1.trans e2) (k1.trans k2) rh2 (wk_zip rv1' (lst_ref q3) rv2 (lst_ref q4))⟩
  | .rev a, X, N, sc, W, tg, x, g, hm => by
    cases x <;> first | exact absurd hm Bool.false_ne_true | skip
    rename_i fn xs kw pos
    cases fn <;> first | exact absurd hm Bool.false_ne_true | skip
    rename_i id p
    match xs, kw, hm with
    | [], _, hm => exact absurd hm Bool.false_ne_true
    | _ :: _ :: _, _, hm => simp [mI] at hm
    | [_], _ :: _, hm => simp [mI] at hm
    | [y], [], hm =>
      obtain ⟨h12, h3⟩ := ba hm
      obtain ⟨h1, h2⟩ := ba h12
      have e := of_decide_eq_true h1
      subst e
      obtain ⟨g1, g2⟩ := gl_of g h2
      refine ⟨(pi_reversed g1 (g.glo.free _ (blt_in (.inr (.inr (.inr rfl))))) (pa_cons (sE a X N sc W y g h3) pa_nil (star_of h3 X.env _)) (star_of h3 X.env _)).wk fun σ H R q => ?_, rfl⟩
      obtain ⟨m, l, h, rh, rl, q⟩ := q
      refine tE_in rh rl (fun _ _ z => z) q fun m1 H1 v w h1 e1 k1 rh1 rl1 rv1 q1 => ?_
      obtain ⟨zs, q2, q3⟩ := q1
      obtain ⟨p, vs, rfl, e3, e4⟩ := lstOf_get rh1 rv1 q2
      refine ⟨p, vs, rfl, by rw [g.hK]; exact e3, ?_⟩
      rw [g.hK, ← e4.len]
      exact q3 m1 H1 _ e1 k1 rh1 (wk_rev rv1 (lst_ref q2))

end
mutual
theorem sG : ∀ (t : T) (dc : Bool) (X : Cx) (N : List Str) (sc : Sco) (W : WX) (Y : KX) (x : Expr), Good M X N sc W k → (dc = true → ∀ x, sc.lookup x = some .cell → X.fn x = true) → mT M.toMe dc N sc t x = true → PG X x (tG M fun v => evG M.G (callS M.G k) Y t v)
  | .nm i, dc, X, N, sc, W, Y, x, g, hc, hm => by
    cases x <;> first | exact absurd hm Bool.false_ne_true | skip
    obtain ⟨h1, h2⟩ := ba hm
    obtain ⟨l1, l2⟩ := loc_of g hc h2
    refine (pg_name (i := i) (by rw [g.hN]; exact g.nd) (by rw [g.hN]; exact of_decide_eq_true h1) l1 l2).wk fun w σ H Q q => ?_
    obtain ⟨m, l, h, v, rh, rl, rv, q⟩ := q
    exact q.2 m H _ (Ex.refl m) (Kp.refl _ H) rh (rl.set rv)
  | .tup ts, dc, X, N, sc, W, Y, x, g, hc, hm => by
    cases x <;> first | exact absurd hm Bool.false_ne_true | skip
    rename_i xs kk pos
    have hm : mTs M.toMe dc N sc ts xs = true := hm
    obtain ⟨a1, a2⟩ := as_len X.env hm
    refine (pg_tup (n := xs.length) g.calm (sGs ts dc X N sc W Y xs g hc hm) a1 a2).wk fun w σ H Q q => ?_
    obtain ⟨m, l, h, v, rh, rl, rv, vs, rfl, el, q⟩ := q
    obtain ⟨p, ws, rfl, e1, e2⟩ := rv
    exact ⟨p, ws, rfl, by rw [g.hK]; exact e1, by rw [← e2.len, el]; exact lenTs_of hm, m, l, h, vs, rh, rl, e2, q⟩
  | .attr _ _, dc, X, N, sc, W, Y, x, g, hc, hm => absurd hm (by cases x <;> exact Bool.false_ne_true)
  | .sub _ _, dc, X, N, sc, W, Y, x, g, hc, hm => absurd hm (by cases x <;> exact Bool.false_ne_true)
theorem sGs : ∀ (ts : Ts) (dc : Bool) (X : Cx) (N : List Str) (sc : Sco) (W : WX) (Y : KX) (xs : List Expr), Good M X N sc W k → (dc = true → ∀ x, sc.lookup x = some .cell → X.fn x = true) → mTs M.toMe dc N sc ts xs = true → PGs X xs (tGs M fun v => evGs M.G (callS M.G k) Y ts v)
  | .nil, dc, X, N, sc, W, Y, [], g, hc, hm => pgs_nil.wk fun w σ H Q q => by
    obtain ⟨m, l, h, v, rh, rl, rv, e, q⟩ := q
    subst e
    exact ⟨rv, q m H σ (Ex.refl m) (Kp.refl _ H) rh rl⟩
  | .nil, dc, X, N, sc, W, Y, _ :: _, g, hc, hm => absurd hm Bool.false_ne_true
  | .cons _ _, dc, X, N, sc, W, Y, [], g, hc, hm => absurd hm Bool.false_ne_true
  | .cons t ts, dc, X, N, sc, W, Y, x :: xs, g, hc, hm => by
    obtain ⟨h1, h2⟩ := ba hm
    refine (pgs_cons (sG t dc X N sc W Y x g hc h1) (sGs ts dc X N sc W Y xs g hc h2) (by rw [as_each h1 X.env] <;> rfl)).wk fun w σ H Q q => ?_
    obtain ⟨m, l, h, v, rh, rl, rv, y, r, e, q⟩ := q
    subst e
    obtain ⟨w1, wr, rfl, r1, r2⟩ := rv
    refine ⟨w1, wr, rfl, m, l, h, y, rh, rl, r1, evG_mono (csle M k) (fun _ _ z => z) t y l h _ _ (fun l1 h1 q1 m1 H1 σ1 e1 k1 rh1 rl1 => ?_) q⟩
    exact ⟨m1, l1, h1, r, rh1, rl1, r2.mono k1 e1, evGs_mono (csle M k) (fun _ _ z => z) ts r l1 h1 _ _ (fun l2 h2 => LG.mono e1 k1 l2 h2) q1⟩
end
end
end Py

set_option Elab.async false
set_option linter.all false
set_option maxRecDepth 100000
set_option maxHeartbeats 4000000
/-! PySound6: statements. -/
namespace Py
open PySem PySem.Spec PyProof.Rows L2
def tupTup : Expr → Expr → Bool
  | .Tuple .., .Tuple .. => true
  | .List .., .Tuple .. => true
  | _, _ => false
def notComp : Expr → Bool
  | .ListComp .. => false
  | .SetComp .. => false
  | .DictComp .. => false
  | _ => true
def isLC : Expr → Bool
  | .ListComp .. => true
  | _ => false
/-- x = [..] that is handed over before the block is left -/
def swB (sc : Sco) (x y : Expr) : Bool := match x, y with
  | .Name t pos, .ListComp _ _ scope p => sc.lookup t == some .local && pos.line == p.line && !(scope.names.any fun (n, k) => n == t && (k == .local || k == .cell))
  | _, _ => false
mutual
def mS (M : Me) (dc : Bool) (N : List Str) (sc : Sco) : S → Stmt → Bool
  | .asg (.attr o f) e, .Assign [.Attribute x y _] z _ => decide (M.nm f = y) && (mE M N sc o x && (mE M N sc e z && (notComp z || isLC z)))
  | .asg (.sub o i) e, .Assign [.Subscript x y _] z _ => mE M N sc o x && (mE M N sc i y && (mE M N sc e z && (notComp z || isLC z)))
  | .asg t e, .Assign [x] y _ => (mT M dc N sc t x && mE M N sc e y) && (!tupTup x y && (notComp y || isLC y))
  | .augF ob f o e, .AugAssign (.Attribute x y _) p z _ => decide (M.nm f = y) && (mE M N sc ob x && (bopB o p && mE M N sc e z))
  | .aug i o e, .AugAssign (.Name x _) p y _ => (decide (N[i]? = some x) && locB dc sc x) && (bopB o p && mE M N sc e y)
  | .exp e, .Expr y _ => mE M N sc e y && notComp y
  | .ret e, .Return (some y) _ => mE M N sc e y
  | .retN, .Return none _ => true
  | .ife c a b, .If x xs ys _ => mC M N sc c x && (mB M dc N sc a xs && mB M dc N sc b ys)
  | .for t it b, .For tg x xs [] _ => (mI M N sc tg it x && mT M dc N sc t tg) && mB M dc N sc b xs
  | .whl c b, .While x xs [] _ => mC M N sc c x && mB M dc N sc b xs
  | .pas, .Pass _ => true
  | .cont, .Continue _ => true
  | .rai0, .Raise _ _ _ => true
  | _, _ => false
def mB (M : Me) (dc : Bool) (N : List Str) (sc : Sco) : B → List Stmt → Bool
  | .nil, [] => true
  | .cons s b, x :: xs => mS M dc N sc s x && mB M dc N sc b xs
  | _, _ => false
end
def LN (M : Mo) (W : WX) (m : List Addr) (H : Hp) (D : Ends) : En where
  nx := LG M m H D.nx
  rt := LQ M m H D.rt
  ct := LG M m H D.ct
  ex := fun x l' h' => ∀ (m' : List Addr) (H' : Hp) (σ' : L2.St) (cls : Value) (d : Option Addr), Ex m m' → Kp M.K H H' → RH M H' m' h' → RL M.K H' m' l' σ' → RX M H' m' x cls d → W cls d σ' H'
theorem LN.le {M : Mo} {W : WX} {m m1 : List Addr} {H H1 : Hp} {D : Ends} (e : Ex m m1) (k : Kp M.K H H1) : Enle (LN M W m H D) (LN M W m1 H1 D) :=
  ⟨LG.mono e k, LQ.mono e k, LG.mono e k, fun x l h q m' H' σ' c d e' k' r rl rx => q m' H' σ' c d (e.trans e') (k.trans k') r rl rx⟩
theorem LN.ex_ {M : Mo} {W : WX} {m m1 : List Addr} {H H1 : Hp} {D : Ends} {l : Py.Loc} {σ : L2.St} (e : Ex m m1) (k : Kp M.K H H1) (rl : RL M.K H1 m1 l σ) : ∀ x h, (LN M W m H D).ex x l h → LX M W σ m1 H1 x h :=
  fun x h q m' H' c d e' k' r rx => q m' H' σ c d (e.trans e') (k.trans k') r (rl.mono k' e') rx
abbrev DS := Py.Loc → PH → En → Prop
def tS (M : Mo) (W : WX) (d : DS) : TS := fun D σ H => ∃ m l h, RH M H m h ∧ RL M.K H m l σ ∧ d l h (LN M W m H D)
structure GoodS (M : Mo) (X : Cx) (N : List Str) (sc : Sco) (W : WX) (k : Nat) (dc : Bool) : Prop where
  g : Good M X N sc W k
  pas : PassesOwn (model X.prog X.w) X.A X.env X.xe
  cel : dc = true → ∀ x, sc.lookup x = some .cell → X.fn x = true
theorem notComp_sw {y : Expr} {t : Option Expr} {n : Nat} {env : Env} (h : notComp y = true) : swapsWith y t n env = pure false := by
  cases y <;> first | rfl | exact absurd h Bool.false_ne_true
theorem sw_swB {x y : Expr} {n : Nat} {env : Env} (h : (notComp y || isLC y) = true) (hk : env.blockKind = .function) : swapsWith y (some x) n env = pure (swB env.scope.names x y) := by
  cases y with
  | ListComp e gs scope p =>
    cases x with
    | Name t pos =>
      show (pure _ : Sem Bool) = _
      have e1 : (env.blockKind == ScopeKind.function) = true := by rw [hk]; rfl
      simp only [swB, e1, Bool.true_and]
      rfl
    | _ => rfl
  | SetComp e gs scope p => exact absurd h Bool.false_ne_true
  | DictComp e e' gs scope p => exact absurd h Bool.false_ne_true
  | _ => cases x <;> rfl
theorem sw_none {x y : Expr} {env : Env} (h : tupTup x y = false) : swappedStores [x] y env = pure none := by
  cases x <;> first | rfl | (cases y <;> first | rfl | cases h)
section
variable {M : Mo} {k : Nat}
theorem bk_of {X : Cx} {N : List Str} {sc : Sco} {W : WX} (g : Good M X N sc W k) : X.env.blockKind = .function := by unfold Env.blockKind; rw [g.kd]; rfl
/-- name = [..], handed over -/
theorem asg_lc {X : Cx} {N : List Str} {sc : Sco} {W : WX} {dc : Bool} (g : GoodS M X N sc W k dc) {t : T} {e : E} {z y : Expr} {pos : Pos} (he : PE X y (tE M W fun Y => evE M.G (callS M.G k) Y e)) (h1 : mT M.toMe dc N sc t z = true) (h2 : mE M.toMe N sc e y = true)
    (h4 : (notComp y || isLC y) = true) (hsw : swB sc z y = true) : PS X (.Assign [z] y pos) (tS M W fun l h D => evS M.G (callS M.G k) (.asg t e) l h D) := by
  cases z with
  | Name nm py =>
    cases y with
    | ListComp x' gens scope p =>
      cases t <;> first | exact absurd h1 Bool.false_ne_true | skip
      rename_i i
      cases e <;> first | exact absurd h2 Bool.false_ne_true | (rename_i f a; cases a <;> exact absurd h2 Bool.false_ne_true) | skip
      rename_i elt t' it cond
      match gens, h2, he, hsw, h4 with
      | [], h2, he, hsw, h4 => exact absurd h2 Bool.false_ne_true
      | ⟨_, _, _, _⟩ :: ⟨_, _, _, _⟩ :: _, h2, he, hsw, h4 => simp [mE] at h2
      | [⟨tg, iter, ifs, ia⟩], h2, he, hsw, h4 =>
        obtain ⟨h012, h3456⟩ := ba h2
        obtain ⟨h0, h12⟩ := ba h012
        obtain ⟨t1, t2⟩ := ba h12
        obtain ⟨t3, h456⟩ := ba h3456
        obtain ⟨t4, h56⟩ := ba h456
        obtain ⟨t5, t6⟩ := ba h56
        cases (show ia = 0 from beq_iff_eq.mp h0)
        obtain ⟨n1, n2⟩ := ba h1
        have ok := blk_ok g.g t2
        have kd : scope.kind = .function := ok.kind
        have hi := sI it X N sc W tg iter g.g t3
        have loc : X.env.scope.names.lookup nm = some .local := by
          rw [g.g.sc]
          obtain ⟨a, _⟩ := ba hsw
          obtain ⟨a, _⟩ := ba a
          exact beq_iff_eq.mp a
        have p := ps_setLc (i := i) (y := nm) (py := py) (spos := pos) (pos := p) (te := tE M (fun _ _ _ _ => False) fun Y => evE M.G (callS M.G k) Y elt) g.g.calm (by rw [g.g.hN]; exact g.g.nd) (by rw [g.g.hN]; exact of_decide_eq_true n1) loc
          (by rw [sw_swB h4 (bk_of g.g), g.g.sc, hsw]) hi.1 ok (fun s H C cl fp => sGn t' _ N (relB scope sc) _ (fun _ _ => False) tg (tNs t') (g.g.blk s H C cl fp kd) t1 (fun _ h => h) t4)
          (fun s H C cl fp => sOC cond _ N (relB scope sc) _ ifs (g.g.blk s H C cl fp kd) t5) (fun s H C cl fp => sE elt _ N (relB scope sc) _ x' (g.g.blk s H C cl fp kd) t6) (Py.fold_of hi.2 X.env)
        rw [own_ix] at p
        refine p.wk fun D σ H q => ?_
        obtain ⟨m, l, h, rh, rl, q⟩ := q
        have q : evE M.G (callS M.G k) (fun x h' => (LN M W m H D).ex x l h') (.lc elt t' it cond) l h fun v h1 => evG M.G (callS M.G k) (fun x h' => (LN M W m H D).ex x l h') (.nm i) v l h1 (LN M W m H D).nx := q
        refine lc_in (W := W) (tE_in rh rl (LN.ex_ (D := D) (Ex.refl m) (Kp.refl _ H) rl) q fun m1 H1 v w h1 e1 k1 rh1 rl1 rv1 q1 => ?_)
        exact q1.2 m1 H1 _ e1 k1 rh1 (rl1.set rv1)
    | _ => exact absurd hsw Bool.false_ne_true
  | _ => cases y <;> exact absurd hsw Bool.false_ne_true
theorem drop_cons {α : Type} {xs : List α} {i : Nat} {x : α} (h : xs[i]? = some x) : xs.drop i = x :: xs.drop (i + 1) := by
  obtain ⟨h1, h2⟩ := List.getElem?_eq_some_iff.mp h
  rw [List.drop_eq_getElem_cons h1, h2]
theorem getN_putN {f g : Nat} {v : PV} : ∀ {fs : List (Nat × PV)}, getN g (putN f v fs) = if g = f then some v else getN g fs
  | [] => by
    show (if f = g then some v else none) = _
    by_cases h : g = f
    · rw [if_pos h, if_pos h.symm]
    · rw [if_neg h, if_neg (Ne.symm h)]; rfl
  | (a, x) :: r => by
    unfold putN
    by_cases ha : a = f
    · rw [if_pos ha]
      subst ha
      show (if a = g then some v else getN g r) = if g = a then some v else (if a = g then some x else getN g r)
      by_cases h : g = a
      · rw [if_pos h, if_pos h.symm]
      · rw [if_neg h, if_neg (Ne.symm h), if_neg (Ne.symm h)]
    · rw [if_neg ha]
      show (if a = g then some x else getN g (putN f v r)) = if g = f then some v else (if a = g then some x else getN g r)
      rw [getN_putN]
      by_cases h : a = g
      · rw [if_pos h, if_pos h, if_neg (fun z => ha (h.trans z))]
      · rw [if_neg h, if_neg h]
theorem len_putN {f : Nat} {v : PV} : ∀ {fs : List (Nat × PV)}, (putN f v fs).length = if (getN f fs).isSome = true then fs.length else fs.length + 1
  | [] => rfl
  | (a, x) :: r => by
    unfold putN getN
    by_cases ha : a = f
    · rw [if_pos ha, if_pos ha]; rfl
    · rw [if_neg ha, if_neg ha, List.length_cons, len_putN]
      split <;> rfl
theorem len_putF {f : Str} {v : V} : ∀ {fs : List (Str × V)}, (putF f v fs).length = if (fs.lookup f).isSome = true then fs.length else fs.length + 1
  | [] => rfl
  | (a, x) :: r => by
    unfold putF
    have e : List.lookup f ((a, x) :: r) = match f == a with | true => some x | false => r.lookup f := rfl
    by_cases ha : a = f
    · have h2 : (f == a) = true := beq_iff_eq.mpr ha.symm
      rw [if_pos ha, e, h2]; rfl
    · have h2 : (f == a) = false := beq_eq_false_iff_ne.mpr (Ne.symm ha)
      rw [if_neg ha, e, h2, List.length_cons, len_putF]
      split <;> rfl
theorem keys_putF {f : Str} {v : V} {s : Str} : ∀ {fs : List (Str × V)}, s ∈ (putF f v fs).map (·.1) → s = f ∨ s ∈ fs.map (·.1)
  | [], h => .inl (List.mem_singleton.mp h)
  | (a, x) :: r, h => by
    unfold putF at h
    split at h
    · exact .inr h
    · rcases List.mem_cons.mp h with h | h
      · exact .inr (h ▸ List.mem_cons_self ..)
      · exact (keys_putF h).imp id (List.mem_cons_of_mem _)
theorem asg_gen {X : Cx} {N : List Str} {sc : Sco} {W : WX} {dc : Bool} (g : GoodS M X N sc W k dc) {t : T} {e : E} {z y : Expr} {pos : Pos} (hm : ((mT M.toMe dc N sc t z && mE M.toMe N sc e y) && (!tupTup z y && (notComp y || isLC y))) = true) :
    PS X (.Assign [z] y pos) (tS M W fun l h D => evS M.G (callS M.G k) (.asg t e) l h D) := by
  obtain ⟨h12, h34⟩ := ba hm
  obtain ⟨h1, h2⟩ := ba h12
  obtain ⟨h3, h4⟩ := ba h34
  by_cases hsw : swB sc z y = true
  · exact asg_lc g (sE e X N sc W y g.g h2) h1 h2 h4 hsw
  have hsw : swB sc z y = false := by simpa using hsw
  refine (ps_asg (sE e X N sc W y g.g h2) (sG t dc X N sc W (fun _ _ => True) z g.g g.cel h1) (by show swapsWith y (some z) pos.line X.env = pure false; rw [sw_swB h4 (bk_of g.g), g.g.sc, hsw]) (sw_none (nb h3)) (by rw [as_each h1 X.env []] <;> rfl)).wk fun D σ H q => ?_
  obtain ⟨m, l, h, rh, rl, q⟩ := q
  refine tE_in rh rl (LN.ex_ (Ex.refl m) (Kp.refl _ H) rl) q fun m1 H1 v w h1 e1 k1 rh1 rl1 rv1 q1 => ?_
  exact ⟨m1, l, h1, v, rh1, rl1, rv1, evG_mono (csle M k) (fun _ _ _ => trivial) t v l h1 _ _ (LG.mono e1 k1) q1⟩
theorem asg_attr {X : Cx} {N : List Str} {sc : Sco} {W : WX} {dc : Bool} (g : GoodS M X N sc W k dc) {o : E} {f : Nat} {e : E} {x : Stmt} (hm : mS M.toMe dc N sc (.asg (.attr o f) e) x = true) :
    PS X x (tS M W fun l h D => evS M.G (callS M.G k) (.asg (.attr o f) e) l h D) := by
    cases x <;> first | exact absurd hm Bool.false_ne_true | skip
    rename_i tg y pos
    match tg, hm with
    | [], hm => exact absurd hm Bool.false_ne_true
    | w :: _ :: _, hm => cases w <;> exact absurd hm Bool.false_ne_true
    | [z], hm =>
      cases z <;> first | exact absurd hm Bool.false_ne_true | skip
      rename_i x' nm p
      obtain ⟨h1, h234⟩ := ba hm
      obtain ⟨h2, h34⟩ := ba h234
      obtain ⟨h3, h4⟩ := ba h34
      have e := of_decide_eq_true h1
      subst e
      refine (ps_fld (sE o X N sc W x' g.g h2) (sE e X N sc W y g.g h3) (by rw [sw_swB h4 (bk_of g.g)] <;> rfl)).wk fun D σ H q => ?_
      obtain ⟨m, l, h, rh, rl, q⟩ := q
      refine tE_in rh rl (LN.ex_ (Ex.refl m) (Kp.refl _ H) rl) q fun m1 H1 v w h1 e1 k1 rh1 rl1 rv1 q1 => ?_
      refine tE_in rh1 rl1 (LN.ex_ e1 k1 rl1) q1 fun m2 H2 u w2 h2 e2 k2 rh2 rl2 rv2 q2 => ?_
      obtain ⟨p, c, fs, cd, rfl, ep, hc, hf, hlen, q2⟩ := q2
      obtain ⟨pa, e3, rfl⟩ := rv2
      obtain ⟨dx, gs, cd', a1, a2, a3, a4, a5⟩ := rh2.obj _ _ _ ep e3
      rw [hc] at a2; cases a2
      have ok := g.g.cls c cd hc
      have hf' : f ∈ cd.fields := List.contains_iff_mem.mp hf
      refine ⟨pa, _, dx, gs, rfl, a1, by rw [g.g.hK]; exact ok.cls, by rw [g.g.hK]; exact ok.noat f hf', by omega, ?_⟩
      have kk : Kp M.K H2 (upd H2 pa (.ins (M.ca c) dx (putF (M.nm f) w gs))) := Kp.upd_old a1 rfl
      have put := rh2.put (u := .ins (M.ca c) dx (putF (M.nm f) w gs)) (o := .ins c (putN f v fs)) ep e3 rfl rfl ⟨dx, _, cd, upd_same, hc, ?_, ?_, ?_⟩
      · exact q2 m2 _ σ (e1.trans e2) ((k1.trans k2).trans kk) put.1 (rl2.mono kk (Ex.refl m2))
      · intro f2 hf2
        rw [lookup_putF, getN_putN]
        by_cases hz : f2 = f
        · subst hz
          rw [if_pos rfl, if_pos rfl]
          exact (rv1.mono k2 e2).mono kk (Ex.refl m2) _ _
        · rw [if_neg hz, if_neg (fun z => hz (ok.inj _ (List.contains_iff_mem.mp hf2) _ hf' z))]
          exact (a3 f2 hf2).mono kk (Ex.refl m2) _ _
      · rw [len_putF, len_putN, a4]
        have o := a3 f hf
        cases e5 : getN f fs <;> cases e6 : gs.lookup (M.nm f) <;> rw [e5, e6] at o <;> first | rfl | exact o.elim
      · intro s hs
        rcases keys_putF hs with rfl | hs
        · exact List.mem_map_of_mem hf'
        · exact a5 s hs
theorem ps_put {X : Cx} {o i value : Expr} {td ty tv : TE} {t : TSet} {pos pos' : Pos} (hset : PSet X t) (ho : PE X o td) (hi : PE X i ty) (hv : PE X value tv) (hs : swapsWith value (some (.Subscript o i pos')) pos.line X.env = pure false) :
    PS X (.Assign [.Subscript o i pos'] value pos) (fun D σ H => tv σ H fun v H1 => td σ H1 fun x H2 => ty σ H2 fun y H3 => t x y v H3 fun H4 => D.nx σ H4) := by
  refine ⟨fun pins s σ H D I h => ?_⟩
  refine wpAny_Assign_Subscript (thn (hv.run pins s σ H _ I h) fun r s1 ⟨v, H1, I1, rv, q1⟩ => thn (ho.run pins s1 σ H1 _ I1 q1) fun u s2 ⟨x, H2, I2, rx, q2⟩ => thn (hi.run pins s2 σ H2 _ I2 q2) fun iv s3 ⟨y, H3, I3, ry, q3⟩ => ?_) hs
  exact thn (hset pins s3 σ H3 x y v u iv r _ I3 rx ry rv q3) fun _ s' ⟨H', I', q⟩ => ⟨σ, H', I', q⟩
theorem asg_sub {X : Cx} {N : List Str} {sc : Sco} {W : WX} {dc : Bool} (g : GoodS M X N sc W k dc) {o i : E} {e : E} {x : Stmt} (hm : mS M.toMe dc N sc (.asg (.sub o i) e) x = true) :
    PS X x (tS M W fun l h D => evS M.G (callS M.G k) (.asg (.sub o i) e) l h D) := by
  cases x <;> first | exact absurd hm Bool.false_ne_true | skip
  rename_i tg y pos
  match tg, hm with
  | [], hm => exact absurd hm Bool.false_ne_true
  | w :: _ :: _, hm => cases w <;> exact absurd hm Bool.false_ne_true
  | [z], hm =>
    cases z <;> first | exact absurd hm Bool.false_ne_true | skip
    rename_i x' y' p
    obtain ⟨h1, h234⟩ := ba hm
    obtain ⟨h2, h34⟩ := ba h234
    obtain ⟨h3, h4⟩ := ba h34
    have hset : PSet X fun o i v H Q => rSetL o i v H Q ∨ rSetD o i v H Q := fun pins s σ H o i v ov iv u Q I ro ri rv h => h.elim (set_list pins s σ H o i v ov iv u Q I ro ri rv) (set_dict (by have := g.g.room.un; omega) pins s σ H o i v ov iv u Q I ro ri rv)
    refine (ps_put hset (sE o X N sc W x' g.g h1) (sE i X N sc W y' g.g h2) (sE e X N sc W y g.g h3) (by rw [sw_swB h4 (bk_of g.g)] <;> rfl)).wk fun D σ H q => ?_
    obtain ⟨m, l, h, rh, rl, q⟩ := q
    refine tE_in rh rl (LN.ex_ (Ex.refl m) (Kp.refl _ H) rl) q fun m1 H1 v w h1 e1 k1 rh1 rl1 rv1 q1 => ?_
    refine tE_in rh1 rl1 (LN.ex_ e1 k1 rl1) q1 fun m2 H2 u w2 h2 e2 k2 rh2 rl2 rv2 q2 => ?_
    refine tE_in rh2 rl2 (LN.ex_ (e1.trans e2) (k1.trans k2) rl2) q2 fun m3 H3 u3 w3 h3 e3 k3 rh3 rl3 rv3 q3 => ?_
    unfold putV at q3
    split at q3
    case h_2 => exact q3.elim
    rename_i b
    obtain ⟨pb, eb, rfl⟩ := rv2
    have eb3 := e3 _ _ eb
    split at q3
    case h_3 => exact q3.elim
    · rename_i xs ed
      obtain ⟨i, j, rfl, hj, q3⟩ := q3
      cases (show w3 = .int _ from rv3)
      obtain ⟨vs, e4, rk⟩ := rh3.obj _ _ _ ed eb3
      have rk : RVs M.K H3 m3 xs vs := rk
      have kk : Kp M.K H3 (upd H3 pb (.lst (vs.set j w))) := Kp.upd_old e4 rfl
      refine .inl ⟨pb, vs, i, j, rfl, rfl, e4, by rw [← rk.len]; exact hj, ?_⟩
      have put := rh3.put (u := .lst (vs.set j w)) (o := .lst (xs.set j v)) ed eb3 rfl rfl ⟨_, upd_same, (RVs.setI (RV.mono k3 e3 _ _ (RV.mono k2 e2 _ _ rv1)) j rk).mono kk (Ex.refl m3) _ _⟩
      exact q3 m3 _ σ ((e1.trans e2).trans e3) (((k1.trans k2).trans k3).trans kk) put.1 (rl3.mono kk (Ex.refl m3))
    rename_i kvs ed
    obtain ⟨hk, hlen, q3⟩ := q3
    obtain ⟨ks, e4, rk⟩ := rh3.obj _ _ _ ed eb3
    obtain ⟨q', hq, rfl⟩ := isK_of hk rv3
    have kk : Kp M.K H3 (upd H3 pb (.dK (putK ks q' w))) := Kp.upd_old e4 rfl
    refine .inr ⟨pb, _, rfl, DPut.k e4 (by rw [← rk.len]; exact hlen), ?_⟩
    have put := rh3.put (u := .dK (putK ks q' w)) (o := .dic (putD u3 v kvs)) ed eb3 rfl rfl ⟨_, upd_same, (put_of hq (RV.mono k3 e3 _ _ (RV.mono k2 e2 _ _ rv1)) rk).mono kk (Ex.refl m3) _ _⟩
    exact q3 m3 _ σ ((e1.trans e2).trans e3) (((k1.trans k2).trans k3).trans kk) put.1 (rl3.mono kk (Ex.refl m3))
def rAug (M : Mo) (o : BO) : V → V → Hp → VK → Prop := fun x y H Q => ∃ m h a b, RH M H m h ∧ RV M.K H m a x ∧ RV M.K H m b y ∧ augV o a b h (LQ M m H Q)
theorem aug_attr {X : Cx} {N : List Str} {sc : Sco} {W : WX} {dc : Bool} (g : GoodS M X N sc W k dc) {ob : E} {f : Nat} {o : BO} {e : E} {x : Stmt} (hm : mS M.toMe dc N sc (.augF ob f o e) x = true) :
    PS X x (tS M W fun l h D => evS M.G (callS M.G k) (.augF ob f o e) l h D) := by
  cases x <;> first | exact absurd hm Bool.false_ne_true | skip
  rename_i tg p z pos
  cases tg <;> first | exact absurd hm Bool.false_ne_true | skip
  rename_i x' nm tp
  obtain ⟨h1, h234⟩ := ba hm
  obtain ⟨h2, h34⟩ := ba h234
  obtain ⟨h3, h4⟩ := ba h34
  have en := of_decide_eq_true h1
  subst en
  have eo := of_decide_eq_true h3
  subst eo
  have hop : InOp X (bopOf o) (rAug M o) := fun pins s σ H x y u v Q I rx ry q => sA o pins s σ H x y u v Q I rx ry q
  refine (ps_fldaug (sE ob X N sc W x' g.g h2) (sE e X N sc W z g.g h4) hop).wk fun D σ H q => ?_
  obtain ⟨m, l, h, rh, rl, q⟩ := q
  refine tE_in rh rl (LN.ex_ (Ex.refl m) (Kp.refl _ H) rl) q fun m1 H1 v w h1 e1 k1 rh1 rl1 rv1 q1 => ?_
  obtain ⟨pp, c, fs, v0, cd, rfl, ep, hc, hf, hg, q1⟩ := q1
  obtain ⟨pa, e3, rfl⟩ := rv1
  obtain ⟨dx, gs, cd', a1, a2, a3, a4, a5⟩ := rh1.obj _ _ _ ep e3
  rw [hc] at a2; cases a2
  have ok := g.g.cls c cd hc
  have hf' : f ∈ cd.fields := List.contains_iff_mem.mp hf
  have o3 := a3 f hf
  rw [hg] at o3
  cases e6 : gs.lookup (M.nm f) with
  | none => rw [e6] at o3; exact o3.elim
  | some w0 =>
  rw [e6] at o3
  have rv0 : RV M.K H1 m1 v0 w0 := o3
  refine ⟨pa, _, dx, gs, w0, rfl, a1, by rw [g.g.hK]; exact ok.cls, by rw [g.g.hK]; exact ok.noat f hf', e6, ?_⟩
  refine tE_in rh1 rl1 (LN.ex_ e1 k1 rl1) q1 fun m2 H2 u w2 h2 e2 k2 rh2 rl2 rv2 q2 => ?_
  refine ⟨m2, h2, v0, u, rh2, rv0.mono k2 e2 _ _, rv2, augV_mono (fun z h3 q3 m3 H3 w3 e3' k3 rh3 rv3 => ?_) q2⟩
  obtain ⟨fs', b1, b2, q3⟩ := q3
  have e33 := e3' _ _ (e2 _ _ e3)
  obtain ⟨dx', gs', cd'', b3, b4, b5, b6, b7⟩ := rh3.obj _ _ _ b1 e33
  rw [hc] at b4; cases b4
  refine ⟨dx', gs', b3, by omega, ?_⟩
  have kk : Kp M.K H3 (upd H3 pa (.ins (M.ca c) dx' (putF (M.nm f) w3 gs'))) := Kp.upd_old b3 rfl
  have put := rh3.put (u := .ins (M.ca c) dx' (putF (M.nm f) w3 gs')) (o := .ins c (putN f z fs')) b1 e33 rfl rfl ⟨dx', _, cd, upd_same, hc, ?_, ?_, ?_⟩
  · exact q3 m3 _ σ ((e1.trans e2).trans e3') (((k1.trans k2).trans k3).trans kk) put.1 ((rl2.mono k3 e3').mono kk (Ex.refl m3))
  · intro f2 hf2
    rw [lookup_putF, getN_putN]
    by_cases hz : f2 = f
    · subst hz
      rw [if_pos rfl, if_pos rfl]
      exact rv3.mono kk (Ex.refl m3) _ _
    · rw [if_neg hz, if_neg (fun z => hz (ok.inj _ (List.contains_iff_mem.mp hf2) _ hf' z))]
      exact (b5 f2 hf2).mono kk (Ex.refl m3) _ _
  · rw [len_putF, len_putN, b6]
    have o := b5 f hf
    cases e5 : getN f fs' <;> cases e6 : gs'.lookup (M.nm f) <;> rw [e5, e6] at o <;> first | rfl | exact o.elim
  · intro s hs
    rcases keys_putF hs with rfl | hs
    · exact List.mem_map_of_mem hf'
    · exact b7 s hs
mutual
theorem sS : ∀ (s : S) (X : Cx) (N : List Str) (sc : Sco) (W : WX) (dc : Bool) (x : Stmt), GoodS M X N sc W k dc → mS M.toMe dc N sc s x = true → PS X x (tS M W fun l h D => evS M.G (callS M.G k) s l h D)
  | .asg (.nm i) e, X, N, sc, W, dc, x, g, hm => by
    cases x <;> first | exact absurd hm Bool.false_ne_true | skip
    rename_i tg y pos
    match tg, hm with
    | [], hm => exact absurd hm Bool.false_ne_true
    | _ :: _ :: _, hm => exact absurd hm Bool.false_ne_true
    | [z], hm => exact asg_gen g hm
  | .asg (.tup ts) e, X, N, sc, W, dc, x, g, hm => by
    cases x <;> first | exact absurd hm Bool.false_ne_true | skip
    rename_i tg y pos
    match tg, hm with
    | [], hm => exact absurd hm Bool.false_ne_true
    | _ :: _ :: _, hm => exact absurd hm Bool.false_ne_true
    | [z], hm => exact asg_gen g hm
  | .asg (.attr o f) e, X, N, sc, W, dc, x, g, hm => asg_attr g hm
  | .asg (.sub o i) e, X, N, sc, W, dc, x, g, hm => asg_sub g hm
  | .augF ob f o e, X, N, sc, W, dc, x, g, hm => aug_attr g hm
  | .aug i o e, X, N, sc, W, dc, x, g, hm => by
    cases x <;> first | exact absurd hm Bool.false_ne_true | skip
    rename_i tg p y pos
    cases tg <;> first | exact absurd hm Bool.false_ne_true | skip
    obtain ⟨h12, h34⟩ := ba hm
    obtain ⟨h1, h2⟩ := ba h12
    obtain ⟨h3, h4⟩ := ba h34
    have eo := of_decide_eq_true h3
    subst eo
    obtain ⟨l1, l2⟩ := loc_of g.g g.cel h2
    refine (ps_aug (i := i) (ti := r2 M (augV o)) (by rw [g.g.hN]; exact g.g.nd) (by rw [g.g.hN]; exact of_decide_eq_true h1) l1 (sE e X N sc W y g.g h4) (fun pins s σ H x y v u Q I r1 r2 h => sA o pins s σ H x y v u Q I r1 r2 h) l2).wk fun D σ H q => ?_
    obtain ⟨m, l, h, rh, rl, x, ex, q⟩ := q
    obtain ⟨w0, e0, r0⟩ := rl.2 i x ex
    refine ⟨w0, e0, ?_⟩
    refine tE_in rh rl (LN.ex_ (Ex.refl m) (Kp.refl _ H) rl) q fun m1 H1 v w h1 e1 k1 rh1 rl1 rv1 q1 => ?_
    refine ⟨m1, h1, x, v, rh1, r0.mono k1 e1, rv1, augV_mono (fun z h2 q2 m2 H2 w2 e2 k2 rh2 rv2 => ?_) q1⟩
    exact q2 m2 H2 _ (e1.trans e2) (k1.trans k2) rh2 ((rl1.mono k2 e2).set rv2)
  | .exp e, X, N, sc, W, dc, x, g, hm => by
    cases x <;> first | exact absurd hm Bool.false_ne_true | skip
    rename_i y pos
    obtain ⟨h1, h2⟩ := ba hm
    refine (ps_expr (sE e X N sc W y g.g h1) (notComp_sw h2)).wk fun D σ H q => ?_
    obtain ⟨m, l, h, rh, rl, q⟩ := q
    refine tE_in rh rl (LN.ex_ (Ex.refl m) (Kp.refl _ H) rl) q fun m1 H1 v w h1 e1 k1 rh1 rl1 rv1 q1 => ?_
    exact q1 m1 H1 σ e1 k1 rh1 rl1
  | .ret e, X, N, sc, W, dc, x, g, hm => by
    cases x <;> first | exact absurd hm Bool.false_ne_true | skip
    rename_i y pos
    cases y <;> first | exact absurd hm Bool.false_ne_true | skip
    refine (ps_ret (sE e X N sc W _ g.g hm)).wk fun D σ H q => ?_
    obtain ⟨m, l, h, rh, rl, q⟩ := q
    exact tE_in rh rl (LN.ex_ (Ex.refl m) (Kp.refl _ H) rl) q fun m1 H1 v w h1 e1 k1 rh1 rl1 rv1 q1 => (LQ.mono e1 k1 _ _ q1).at rh1 rv1
  | .retN, X, N, sc, W, dc, x, g, hm => by
    cases x <;> first | exact absurd hm Bool.false_ne_true | skip
    rename_i y pos
    cases y <;> first | exact absurd hm Bool.false_ne_true | skip
    exact ps_retN.wk fun D σ H ⟨m, l, h, rh, rl, q⟩ => LQ.at q rh rfl
  | .ife c a b, X, N, sc, W, dc, x, g, hm => by
    cases x <;> first | exact absurd hm Bool.false_ne_true | skip
    rename_i y xs ys pos
    obtain ⟨h1, h23⟩ := ba hm
    obtain ⟨h2, h3⟩ := ba h23
    refine (ps_if (sT c X N sc W y g.g h1).1 (sBk a X N sc W dc xs g h2) (sBk b X N sc W dc ys g h3)).wk fun D σ H q => ?_
    obtain ⟨m, l, h, rh, rl, q⟩ := q
    refine tT_in rh rl (LN.ex_ (Ex.refl m) (Kp.refl _ H) rl) q fun m1 H1 r h1 e1 k1 rh1 rl1 q1 => ?_
    cases r with
    | true => exact ⟨m1, l, h1, rh1, rl1, evB_mono (csle M k) a l h1 _ _ (LN.le e1 k1) q1⟩
    | false => exact ⟨m1, l, h1, rh1, rl1, evB_mono (csle M k) b l h1 _ _ (LN.le e1 k1) q1⟩
  | .for t it b, X, N, sc, W, dc, x, g, hm => by
    cases x <;> first | exact absurd hm Bool.false_ne_true | skip
    rename_i tg y xs ys pos
    cases ys <;> first | exact absurd hm Bool.false_ne_true | skip
    obtain ⟨h12, h3⟩ := ba hm
    obtain ⟨h1, h2⟩ := ba h12
    obtain ⟨hi, hn⟩ := sI it X N sc W tg y g.g h1
    refine (ps_for g.pas g.g.calm hi (sG t dc X N sc W (fun _ _ => True) tg g.g g.cel h2) (sBk b X N sc W dc xs g h3) (Py.fold_of hn X.env)).wk fun D σ H q => ?_
    obtain ⟨m, l, h, rh, rl, q⟩ := q
    refine ⟨m, l, h, rh, rl, evI_mono (csle M k) (LN.ex_ (Ex.refl m) (Kp.refl _ H) rl) it l h _ _ (fun items live h1 q1 m1 H1 J e1 k1 rh1 wk => ?_) q⟩
    obtain ⟨G, Y, w, wG, wY⟩ := wk.ex
    refine for_it w (fun i σ' H' => ∃ m' l' h', Ex m1 m' ∧ Kp M.K H1 H' ∧ RH M H' m' h' ∧ RL M.K H' m' l' σ' ∧
      iterL live (fun v l' h' K => evG M.G (callS M.G k) (fun x h' => (LN M W m H D).ex x l' h') t v l' h' fun l2 h2 => evB M.G (callS M.G k) b l2 h2 { LN M W m H D with nx := K, ct := K }) (LN M W m H D).nx (items.drop i) l' h') ?_ ?_ ?_ ?_
    · exact ⟨m1, l, h1, Ex.refl m1, Kp.refl _ H1, rh1, rl.mono k1 e1, q1⟩
    · rintro i σ' H' hi ⟨m', l', h', e2, k2, rh2, rl2, q2⟩
      refine wG m' H' h' e2 k2 rh2 ?_
      generalize items.drop i = ds at q2
      cases ds with
      | nil => exact q2.1
      | cons _ _ => exact q2.1
    · rintro i x σ' H' H'' hi ⟨m', l', h', e2, k2, rh2, rl2, q2⟩ y
      have hlt : i < items.length := hi
      have lv : live h' := by
        generalize items.drop i = ds at q2
        cases ds with
        | nil => exact q2.1
        | cons _ _ => exact q2.1
      obtain ⟨v, ev, rh3, k3, rv3⟩ := wY i m' H' h' x H'' e2 k2 rh2 lv hlt y
      rw [drop_cons ev] at q2
      have e13 := e1.trans e2
      have k13 := (k1.trans k2).trans k3
      refine ⟨m', l', h', v, rh3, rl2.mono k3 (Ex.refl m'), rv3, evG_mono (csle M k) (fun _ _ _ => trivial) t v l' h' _ _ (fun l4 h4 q4 m4 H4 σ4 e4 k4 rh4 rl4 => ?_) q2.2⟩
      refine ⟨m4, l4, h4, rh4, rl4, evB_mono (csle M k) b l4 h4 _ _ ?_ q4⟩
      have e14 := e13.trans e4
      have k14 := k13.trans k4
      have again : ∀ (l5 : Py.Loc) (h5 : PH), iterL live (fun v l' h' K => evG M.G (callS M.G k) (fun x h' => (LN M W m H D).ex x l' h') t v l' h' fun l2 h2 => evB M.G (callS M.G k) b l2 h2 { LN M W m H D with nx := K, ct := K }) (LN M W m H D).nx (items.drop (i + 1)) l5 h5 →
          LG M m4 H4 (fun σ' H' => ∃ m' l' h', Ex m1 m' ∧ Kp M.K H1 H' ∧ RH M H' m' h' ∧ RL M.K H' m' l' σ' ∧
            iterL live (fun v l' h' K => evG M.G (callS M.G k) (fun x h' => (LN M W m H D).ex x l' h') t v l' h' fun l2 h2 => evB M.G (callS M.G k) b l2 h2 { LN M W m H D with nx := K, ct := K }) (LN M W m H D).nx (items.drop (i + 1)) l' h') l5 h5 :=
        fun l5 h5 q5 m5 H5 σ5 e5 k5 rh5 rl5 => ⟨m5, l5, h5, (e2.trans e4).trans e5, ((k2.trans k3).trans k4).trans k5, rh5, rl5, q5⟩
      exact ⟨again, LQ.mono e14 k14, again, (LN.le (D := D) (W := W) e14 k14).ex⟩
    · rintro σ' H' ⟨m', l', h', e2, k2, rh2, rl2, q2⟩
      rw [List.drop_length] at q2
      exact q2.2 m' H' σ' (e1.trans e2) (k1.trans k2) rh2 rl2
  | .whl c b, X, N, sc, W, dc, x, g, hm => by
    cases x <;> first | exact absurd hm Bool.false_ne_true | skip
    rename_i y xs ys pos
    cases ys <;> first | exact absurd hm Bool.false_ne_true | skip
    obtain ⟨h1, h2⟩ := ba hm
    refine (ps_while g.pas (sT c X N sc W y g.g h1).1 (sBk b X N sc W dc xs g h2)).wk fun D σ H q => ?_
    obtain ⟨m, l, h, rh, rl, n, q⟩ := q
    refine ⟨fun n σ' H' => ∃ m' l' h', Ex m m' ∧ Kp M.K H H' ∧ RH M H' m' h' ∧ RL M.K H' m' l' σ' ∧
      whlN (fun l' h' K => evT M.G (callS M.G k) (fun x h' => (LN M W m H D).ex x l' h') c l' h' fun r h1 => if r = true then evB M.G (callS M.G k) b l' h1 { LN M W m H D with nx := K, ct := K } else (LN M W m H D).nx l' h1) n l' h',
      ⟨n, m, l, h, Ex.refl m, Kp.refl _ H, rh, rl, q⟩, ?_⟩
    rintro n σ' H' ⟨m', l', h', e2, k2, rh2, rl2, q2⟩
    cases n with
    | zero => exact (show False from q2).elim
    | succ n =>
      refine tT_in rh2 rl2 (LN.ex_ e2 k2 rl2) q2 fun m3 H3 r h3 e3 k3 rh3 rl3 q3 => ?_
      have e13 := e2.trans e3
      have k13 := k2.trans k3
      cases r with
      | false => exact q3 m3 H3 σ' e13 k13 rh3 rl3
      | true =>
        refine ⟨_, fun σ5 H5 z => ⟨n, Nat.lt_succ_self n, z⟩, m3, l', h3, rh3, rl3, evB_mono (csle M k) b l' h3 _ _ ?_ q3⟩
        have again : ∀ (l5 : Py.Loc) (h5 : PH), whlN (fun l' h' K => evT M.G (callS M.G k) (fun x h' => (LN M W m H D).ex x l' h') c l' h' fun r h1 => if r = true then evB M.G (callS M.G k) b l' h1 { LN M W m H D with nx := K, ct := K } else (LN M W m H D).nx l' h1) n l5 h5 →
            LG M m3 H3 (fun σ' H' => ∃ m' l' h', Ex m m' ∧ Kp M.K H H' ∧ RH M H' m' h' ∧ RL M.K H' m' l' σ' ∧
              whlN (fun l' h' K => evT M.G (callS M.G k) (fun x h' => (LN M W m H D).ex x l' h') c l' h' fun r h1 => if r = true then evB M.G (callS M.G k) b l' h1 { LN M W m H D with nx := K, ct := K } else (LN M W m H D).nx l' h1) n l' h') l5 h5 :=
          fun l5 h5 q5 m5 H5 σ5 e5 k5 rh5 rl5 => ⟨m5, l5, h5, e13.trans e5, k13.trans k5, rh5, rl5, q5⟩
        exact ⟨again, LQ.mono e13 k13, again, (LN.le (D := D) (W := W) e13 k13).ex⟩
  | .pas, X, N, sc, W, dc, x, g, hm => by
    cases x <;> first | exact absurd hm Bool.false_ne_true | skip
    exact ps_pass.wk fun D σ H ⟨m, l, h, rh, rl, q⟩ => q m H σ (Ex.refl m) (Kp.refl _ H) rh rl
  | .cont, X, N, sc, W, dc, x, g, hm => by
    cases x <;> first | exact absurd hm Bool.false_ne_true | skip
    exact ps_continue.wk fun D σ H ⟨m, l, h, rh, rl, q⟩ => q m H σ (Ex.refl m) (Kp.refl _ H) rh rl
  | .augS _ _ _ _, X, N, sc, W, dc, x, g, hm => absurd hm (by cases x <;> exact Bool.false_ne_true)
  | .rai0, X, N, sc, W, dc, x, g, hm => ps_never.wk fun D σ H q => by
    obtain ⟨m, l, h, rh, rl, q⟩ := q
    exact q
  | .rais _ _, X, N, sc, W, dc, x, g, hm => absurd hm (by cases x <;> exact Bool.false_ne_true)
theorem sBk : ∀ (b : B) (X : Cx) (N : List Str) (sc : Sco) (W : WX) (dc : Bool) (xs : List Stmt), GoodS M X N sc W k dc → mB M.toMe dc N sc b xs = true → PSs X xs (tS M W fun l h D => evB M.G (callS M.G k) b l h D)
  | .nil, X, N, sc, W, dc, [], g, hm => pss_nil.wk fun D σ H ⟨m, l, h, rh, rl, q⟩ => q m H σ (Ex.refl m) (Kp.refl _ H) rh rl
  | .nil, X, N, sc, W, dc, _ :: _, g, hm => absurd hm Bool.false_ne_true
  | .cons _ _, X, N, sc, W, dc, [], g, hm => absurd hm Bool.false_ne_true
  | .cons s b, X, N, sc, W, dc, x :: xs, g, hm => by
    obtain ⟨h1, h2⟩ := ba hm
    refine (pss_cons (sS s X N sc W dc x g h1) (sBk b X N sc W dc xs g h2)).wk fun D σ H q => ?_
    obtain ⟨m, l, h, rh, rl, q⟩ := q
    refine ⟨m, l, h, rh, rl, evS_mono (csle M k) s l h { LN M W m H D with nx := fun l' h' => evB M.G (callS M.G k) b l' h' (LN M W m H D) } _ ⟨fun l1 h1 q1 m1 H1 σ1 e1 k1 rh1 rl1 => ?_, fun _ _ z => z, fun _ _ z => z, fun _ _ _ z => z⟩ q⟩
    exact ⟨m1, l1, h1, rh1, rl1, evB_mono (csle M k) b l1 h1 _ _ (LN.le e1 k1) q1⟩
end
end
end Py

set_option Elab.async false
set_option linter.all false
set_option maxRecDepth 100000
set_option maxHeartbeats 4000000
/-! PySound7: defs, the law. -/
namespace Py
open PySem PySem.Spec PyProof.Rows L2
/-- what is known of a def of the text -/
structure Ent (M : Mo) (f : Nat) (d : FD) : Prop where
  ex : ∃ (x qual : Str) (params : Arguments) (body : List Stmt) (scope : Scope) (dvs : List V) (kws : List (Str × V)) (N ps : List Str) (fd : FuncData),
    FunD M.K x qual params body scope dvs kws (M.fa f) fd ∧ FnScope N ps scope ∧ ps.length = d.np ∧ N.length = d.ns ∧ mB M.toMe true N scope.names d.body body = true ∧ (Dfl M fd ps d ∧ Kwd M fd ps d)
theorem start_rl {K : PySem.W.Frag} {H : Hp} {m : List Addr} {d : FD} {N : List Str} {args : List PV} {vs : List V} (rv : RVs K H m args vs) (hN : N.length = d.ns) : RL K H m (startL d args) (L2.start N vs) := by
  unfold startL L2.start
  have el := rv.len
  refine ⟨by simp [el, hN], fun i v e => ?_⟩
  by_cases hi : i < args.length
  · rw [List.getElem?_append_left (by simpa using hi), List.getElem?_map] at e
    cases ea : args[i]? with
    | none => rw [ea] at e; cases e
    | some a =>
      rw [ea] at e
      have e' : a = v := Option.some.inj (Option.some.inj e)
      subst e'
      obtain ⟨w, e2, r⟩ := rv.get ea
      exact ⟨w, by rw [List.getElem?_append_left (by simpa [← el] using hi), List.getElem?_map, e2] <;> rfl, r⟩
  · rw [List.getElem?_append_right (by simpa using hi), List.getElem?_replicate] at e
    split at e <;> cases e
section
variable {M : Mo} {P : Program} {w : World} {mg : Str → Option Value} {base : Heap}
theorem fn_one (glo : Glo M mg) (fng : ∀ f, M.gf f = true → mg (M.nm f) = some (.ref (M.fa f))) {k f : Nat} {d : FD} (hf : M.G.fn f = some d) (cls : ∀ c cd, M.G.cls c = some cd → ClsOk M mg c cd) (ih : ∀ j, j ≤ k → ∀ f d, M.G.fn f = some d → FnC M P w mg base j f d (M.fa f))
    {x qual : Str} {params : Arguments} {body : List Stmt} {scope : Scope} {dvs : List V} {kws : List (Str × V)} {N ps : List Str} {fd : FuncData}
    (F : FunD M.K x qual params body scope dvs kws (M.fa f) fd) (S : FnScope N ps scope) (h1 : ps.length = d.np) (h2 : N.length = d.ns) (h3 : mB M.toMe true N scope.names d.body body = true) :
    FnG P w M.K mg base (L2.CX P w) (k + 1) (M.fa f) fd ps (spF M (k + 1) f d.np) := by
  refine fnG_of F S (fun {vs H Q E} ⟨m, h, args, _, rv, hl, q⟩ => by rw [← rv.len, hl, h1]) (fun cdv A outer s H vs Q E hgd hr hsp => ?_)
  obtain ⟨m, h, args, rh, rv, hl, q⟩ := hsp
  have g : GoodS M (cxOf (L2.CX P w) P w M.K mg base N qual scope (M.fa f) cdv A outer s H E) N scope.names (fun cls d _ H => E cls d H) k true :=
    ⟨⟨rfl, S.nd, rfl, rfl, rfl, takes_of rfl rfl rfl rfl, hr, hgd, S.kind, glo, ih, cls, fng⟩, passes_of rfl, fun _ _ _ => rfl⟩
  refine ⟨_, sBk d.body _ N scope.names _ true body g h3, ?_⟩
  obtain ⟨d', hf', l1, l2, q⟩ := q
  rw [hf] at hf'; cases hf'
  have e0 : fill d.dfl args d.np = args := by
    show args ++ d.dfl.drop (d.dfl.length - (d.np - args.length)) = args
    rw [hl, Nat.sub_self, Nat.sub_zero, List.drop_length, List.append_nil]
  rw [e0] at q
  refine ⟨m, startL d args, h, rh, start_rl rv h2, evB_mono (csle M k) d.body _ _ ⟨fun _ h' => LQ M m H Q .non h', LQ M m H Q, fun _ _ => False, fun x _ h' => LE M E m H x h'⟩ _ ⟨?_, ?_, ?_, ?_⟩ q⟩
  · exact fun l h q m' H' σ' e k r rl => q m' H' .non e k r rfl
  · exact fun v h q => q
  · exact fun l h q => (show False from q).elim
  · exact fun x l h q m' H' σ' c d e k r rl rx => q m' H' c d e k r rx
theorem funs_ok (glo : Glo M mg) (fng : ∀ f, M.gf f = true → mg (M.nm f) = some (.ref (M.fa f))) (cls : ∀ c cd, M.G.cls c = some cd → ClsOk M mg c cd) (hall : ∀ f d, M.G.fn f = some d → Ent M f d) :
    ∀ k j, j ≤ k → ∀ f d, M.G.fn f = some d → FnC M P w mg base j f d (M.fa f)
  | k, 0, _, f, d, hf => by
    obtain ⟨x, qual, params, body, scope, dvs, kws, N, ps, fd, F, S, h1, h2, h3, h4⟩ := (hall f d hf).ex
    exact ⟨fd, ps, ⟨fun {vs H Q E} ⟨m, h, args, _, _, _, q⟩ => (show False from q).elim, fun {A outer s H args us vs Q E} _ _ _ _ _ ⟨m, h, as, _, _, _, q⟩ => (show False from q).elim⟩, ⟨F.kp, h4.2⟩, h4.1⟩
  | 0, j + 1, hj, f, d, hf => absurd hj (Nat.not_succ_le_zero j)
  | k + 1, j + 1, hj, f, d, hf => by
    have ih : ∀ i, i ≤ j → ∀ f d, M.G.fn f = some d → FnC M P w mg base i f d (M.fa f) := fun i hi => funs_ok glo fng cls hall k i (Nat.le_trans hi (Nat.le_of_succ_le_succ hj))
    obtain ⟨x, qual, params, body, scope, dvs, kws, N, ps, fd, F, S, h1, h2, h3, h4⟩ := (hall f d hf).ex
    exact ⟨fd, ps, fn_one glo fng hf cls ih F S h1 h2 h3, ⟨F.kp, h4.2⟩, h4.1⟩
theorem dfl0 {fd : FuncData} {ps : List Str} {d : FD} (b : Binds M.K fd ps []) (e : d.dfl = []) : Dfl M fd ps d := fun n hn hl => by
  rw [e]
  exact ⟨[], [], .nil, b, fun H m => by rw [List.drop_nil]; rfl⟩
theorem vals_take {vs : List V} {us : List Value} (h : Vals vs us) : ∀ n : Nat, Vals (vs.take n) (us.take n) := by
  induction h with
  | nil => intro n; cases n <;> exact .nil
  | cons r _ ih => intro n; cases n with
    | zero => exact .nil
    | succ n => exact .cons r (ih n)
theorem kwd0 {fd : FuncData} {ps : List Str} {d : FD} (e : d.kw = none) : Kwd M fd ps d := fun x hx => by rw [e] at hx; cases hx
/-- the law's promise -/
theorem law_sp {k fL : Nat} {dL : FD} {n : Nat} (hf : M.G.fn fL = some dL) (h1 : dL.np = 1)
    (law : ∀ ns : List Int, ns.length ≤ n → callS M.G k (.fn fL) [.ref 0] [.frl (ns.map PV.int)] (fun v _ => v = .bl true) (fun _ _ => False))
    (H : Hp) (a : Addr) (ns : List Int) (hl : ns.length ≤ n) (hO : Only H) (hS : SqL M.K H a (ns.map V.int)) : spF M k fL 1 [.ref a] H (fun v _ => v = .bl true) (fun _ _ _ => False) := by
  have rints : ∀ ns : List Int, RVs M.K H [a] (ns.map PV.int) (ns.map V.int) := fun ns => by
    induction ns with
    | nil => rfl
    | cons i r ih => exact ⟨_, _, rfl, rfl, ih⟩
  refine ⟨[a], [.frl (ns.map PV.int)], [.ref 0], ⟨rfl, fun b o p e1 e2 => ?_, fun b c p o u e1 e2 e3 e4 n1 n2 => ?_⟩, RVs.one ⟨a, rfl, rfl⟩, rfl, callS_mono (fun v h e m' H' w _ _ _ rv => ?_) (fun x h z => z.elim) (law ns hl)⟩
  · cases b with
    | zero =>
      cases (show PO.frl (ns.map PV.int) = o from Option.some.inj e1)
      cases (show a = p from Option.some.inj e2)
      refine ⟨ns.map V.int, ?_, rints ns⟩
      rcases hS with (hS | ⟨ob, hS⟩) | hS
      · rcases hO a with z | ⟨ob, xs, z⟩
        · rw [hS] at z; cases z
        · rw [hS] at z; cases z
      · exact .inl ⟨ob, hS⟩
      · exact .inr hS
    | succ b => simp at e1
  · cases b with
    | zero =>
      cases (show PO.frl (ns.map PV.int) = o from Option.some.inj e3)
      cases n1
    | succ b => simp at e3
  · subst e
    exact rv
end
theorem walk_ofG {l : PySem.W.OpenLaw} {n k : Nat} {q : Program} {loose : List Str} {XP : (Str → Option Value) → Heap → Prop} {YP : World → Heap → Prop} {d : DefRec} {x : Str}
    (hn : l.most = some n) (hn2 : n ≤ sizeLine) (hdf : d.params.defaults = []) (hr : Room k callerA)
    (F : ∀ (w : World) (mg : Str → Option Value) (fa : Addr) (h : Heap), YP w h → h.Ns mainGlobals mg → mg d.name = some (.ref fa) →
      ∃ (K : PySem.W.Frag) (fd : FuncData) (sp : Sp), K.In h ∧ (∀ (s : Shared) (u : Value), BindsTo s fd ⟨[u], []⟩ [(x, u)]) ∧
        (∀ (H : Hp) (a : Addr) (ns : List Int), ns.length ≤ n → Only H → SqL K H a (ns.map V.int) → sp [.ref a] H (fun v _ => v = .bl true) fun _ _ _ => False) ∧
        ∀ base : Heap, K.In base → base.Ns mainGlobals mg → FnG l.prog w K mg base (L2.CX l.prog w) k fa fd [x] sp) :
    PySem.W.WalkO q loose XP YP l.row.toRowW d [] (fun f vs => PySem.call f vs) := by
  refine Att.attach_call hn hdf fun w s₀ s₁ mg mb fa o pm cd doc a vs ns G Y ho hd hcd hmg hobj hints hlen hg => ?_
  obtain ⟨K, fd, sp, KX, hb, hsp, hF⟩ := F w mg fa _ Y G.T.g hmg
  refine law_callG KX G.T.g G.T.b G.T.builtins G.T.nolimit hg hobj hints (Nat.le_trans hlen hn2) hr hF hb (fun H hO hS => hsp H a ns hlen hO hS) fun H e s' c => ?_
  obtain ⟨_, _, _, _, _, _, _, _, _, _, _, _, z⟩ := c
  exact z
theorem SaysD.mem {fa : List He.Fa} {fn : List He.DefD} {K : PySem.W.Frag} (c : He.SaysD fa fn K) {f : He.Fa} (h : f ∈ fa) : f.ok K = true := by
  obtain ⟨i, e⟩ := List.getElem?_of_mem h
  exact c.fact i e
def getF (f : Nat) : List (Nat × FD) → Option FD
  | [] => none
  | (g, x) :: r => if g = f then some x else getF f r
def AllP {α : Type} (P : Nat → α → Prop) : List (Nat × α) → Prop
  | [] => True
  | (g, x) :: r => P g x ∧ AllP P r
theorem getF_all {P : Nat → FD → Prop} : ∀ {l : List (Nat × FD)}, AllP P l → ∀ {f d}, getF f l = some d → P f d
  | [], _, _, _, h => nomatch h
  | (g, x) :: r, ⟨a, b⟩, f, d, h => by
    unfold getF at h
    split at h
    · rename_i e; cases h; exact e ▸ a
    · exact getF_all b h
theorem getN_all {P : Nat → PV → Prop} : ∀ {l : List (Nat × PV)}, AllP P l → ∀ {f d}, getN f l = some d → P f d
  | [], _, _, _, h => nomatch h
  | (g, x) :: r, ⟨a, b⟩, f, d, h => by
    unfold getN at h
    split at h
    · rename_i e; cases h; exact e ▸ a
    · exact getN_all b h
/-! ### constants of the module, as the heap has them -/
mutual
def chkV (K : PySem.W.Frag) : PV → Value → Bool
  | .non, .none => true
  | .bl b, .bool c => b == c
  | .int i, .int j _ => decide (i = j)
  | .str x, .str y _ => decide (x = y)
  | .tup xs, .ref a => (match K.lookup a with
    | some ⟨.type c, _, .seq its _, _⟩ => decide (c = "tuple") && (decide (its.size ≤ sizeLine) && chkVs K xs its.toList)
    | _ => false)
  | _, _ => false
def chkVs (K : PySem.W.Frag) : List PV → List Value → Bool
  | [], [] => true
  | x :: xs, u :: us => chkV K x u && chkVs K xs us
  | _, _ => false
end
mutual
theorem chkV_ok {K : PySem.W.Frag} : ∀ (v : PV) (u : Value), chkV K v u = true → ∃ w, RelV w u ∧ ∀ H m, RV K H m v w
  | .non, u, h => by
    cases u with
    | none => exact ⟨.non, rfl, fun _ _ => rfl⟩
    | _ => cases h
  | .bl b, u, h => by
    cases u with
    | bool c => cases eq_of_beq (show (b == c) = true from h); exact ⟨.bl b, rfl, fun _ _ => rfl⟩
    | _ => cases h
  | .int i, u, h => by
    cases u with
    | int j t => cases of_decide_eq_true (show decide (i = j) = true from h); exact ⟨.int i, ⟨t, rfl⟩, fun _ _ => rfl⟩
    | _ => cases h
  | .str i, u, h => by
    cases u with
    | str j t => cases of_decide_eq_true (show decide (i = j) = true from h); exact ⟨.str i, ⟨t, rfl⟩, fun _ _ => rfl⟩
    | _ => cases h
  | .tup xs, u, h => by
    cases u with
    | ref a =>
      have h : (match K.lookup a with
        | some ⟨.type c, _, .seq its _, _⟩ => decide (c = "tuple") && (decide (its.size ≤ sizeLine) && chkVs K xs its.toList)
        | _ => false) = true := h
      cases q : K.lookup a with
      | none => rw [q] at h; cases h
      | some o =>
        obtain ⟨oc, od, dt, osl⟩ := o
        rw [q] at h
        cases oc with
        | type c =>
          cases dt with
          | seq its n =>
            obtain ⟨h1, h2⟩ := ba (show (decide (c = "tuple") && (decide (its.size ≤ sizeLine) && chkVs K xs its.toList)) = true from h)
            obtain ⟨h3, h4⟩ := ba h2
            obtain ⟨ws, r1, r2⟩ := chkVs_ok xs its.toList h4
            exact ⟨.ref a, rfl, fun H m => ⟨a, ws, rfl, .inr ⟨_, its, n, q, congrArg Value.type (of_decide_eq_true h1), rfl, of_decide_eq_true h3, r1⟩, r2 H m⟩⟩
          | _ => cases h
        | _ => cases dt <;> cases h
    | _ => cases h
  | .ref a, u, h => by cases u <;> cases h
theorem chkVs_ok {K : PySem.W.Frag} : ∀ (v : List PV) (u : List Value), chkVs K v u = true → ∃ w, Vals w u ∧ ∀ H m, RVs K H m v w
  | [], [], _ => ⟨[], .nil, fun _ _ => rfl⟩
  | [], _ :: _, h => by cases h
  | _ :: _, [], h => by cases h
  | x :: xs, u :: us, h => by
    obtain ⟨h1, h2⟩ := ba (show (chkV K x u && chkVs K xs us) = true from h)
    obtain ⟨w, r1, r2⟩ := chkV_ok x u h1
    obtain ⟨ws, s1, s2⟩ := chkVs_ok xs us h2
    exact ⟨w :: ws, .cons r1 s1, fun H m => ⟨w, ws, rfl, r2 H m, s2 H m⟩⟩
end
def chkC (nm : Nat → Str) (l : List (Nat × PV)) (K : PySem.W.Frag) : Bool := l.all fun p => match PySem.W.nsIn K mainGlobals (nm p.1) with
  | some (some u) => chkV K p.2 u
  | _ => false
theorem chkC_ok {K : PySem.W.Frag} {h : Heap} {mg : Str → Option Value} {nm : Nat → Str} {l : List (Nat × PV)} (X : K.In h) (G : h.Ns mainGlobals mg) (c : chkC nm l K = true) : ∀ g v, getN g l = some v → ∃ u w, mg (nm g) = some u ∧ RelV w u ∧ ∀ H m, RV K H m v w := by
  intro g v e
  have mem : (g, v) ∈ l := by
    induction l with
    | nil => cases e
    | cons p r ih =>
      obtain ⟨f, x⟩ := p
      unfold getN at e
      split at e
      · rename_i z; cases e; subst z; exact List.mem_cons_self
      · exact List.mem_cons_of_mem _ (ih (Bool.and_eq_true_iff.mp (show (_ && chkC nm r K) = true from c)).2 e)
  have c1 := List.all_eq_true.mp c _ mem
  dsimp only at c1
  split at c1
  · rename_i u hu
    obtain ⟨w, r1, r2⟩ := chkV_ok v u c1
    exact ⟨u, w, PySem.W.mg_of X G hu, r1, r2⟩
  · cases c1
/-! ### the head's hook -/
abbrev AlP : Type := Bool × He.AlD
def obsP (n : Nat) (fa : List He.Fa) (fn : List He.DefD) (ex : PySem.W.Frag → Bool) (g : Addr → Option Obj) : AlP := (ex (He.frG g (He.asD g n)), He.obsD fa fn (He.frG g (He.asD g n)))
def hookP (n : Nat) (fa : List He.Fa) (fn : List He.DefD) (ex : PySem.W.Frag → Bool) : PySem.W.Hook where
  α := AlP
  obs := fun s => obsP n fa fn ex s.heap.get?
  val := fun _ => (true, He.valD fn)
  says := fun _ h => ∃ K : PySem.W.Frag, K.In h ∧ He.SaysD fa fn K ∧ ex K = true
  of := fun _ _ e => ⟨_, He.frG_in, congrArg (fun z : AlP => z.2) e, congrArg (fun z : AlP => z.1) e⟩
  keeps := fun _ _ _ ⟨K, hK, c⟩ k => ⟨K, PySem.W.Frag.In.keeps hK k, c⟩
theorem obsP_eq {n : Nat} {fa : List He.Fa} {fn : List He.DefD} {ex : PySem.W.Frag → Bool} {g : Addr → Option Obj} {s : Shared} (h : ∀ a, g a = s.heap.get? a) : obsP n fa fn ex g = (hookP n fa fn ex).obs s := by
  have e : g = s.heap.get? := funext h
  rw [e] <;> rfl
/-! ### classes -/
/-- a method: found in the class, the very function at p -/
def chkM (K : PySem.W.Frag) (x m : Str) (p : Str × Option Str) : Bool := He.eqO (PySem.W.findIn K (.ref (He.ga K x)) m) (some (some (.ref (He.fAd K p)))) && (PySem.W.isFn K (.ref (He.fAd K p)) && PySem.W.keepIn K (.ref (He.fAd K p)))
theorem chkM_ok {K : PySem.W.Frag} {x m : Str} {p : Str × Option Str} (c : chkM K x m p = true) : Meth K (He.ga K x) m (He.fAd K p) := by
  obtain ⟨c1, c⟩ := ba c
  obtain ⟨c2, c3⟩ := ba c
  exact ⟨He.eqO_ok c1, c2, c3⟩
def chkK (K : PySem.W.Frag) (x : Str) (p : Str × Option Str) : Bool := PySem.W.makesIn K (He.ga K x) && (He.eqO (PySem.W.findIn K (.ref (He.ga K x)) "__init__") (some (some (.ref (He.fAd K p)))) && (PySem.W.isFn K (.ref (He.fAd K p)) && PySem.W.keepIn K (.ref (He.ga K x))))
theorem chkK_ok {K : PySem.W.Frag} {x : Str} {p : Str × Option Str} (c : chkK K x p = true) : Mk K (He.ga K x) (He.fAd K p) := by
  obtain ⟨c1, c⟩ := ba c
  obtain ⟨c2, c⟩ := ba c
  obtain ⟨c3, c4⟩ := ba c
  exact ⟨c1, He.eqO_ok c2, c3, c4⟩
/-- a class, by its fields, methods, initialiser -/
def chkD (nm : Nat → Str) (at_ : Nat → Str × Option Str) (c : Nat) (cd : CD) (K : PySem.W.Frag) : Bool :=
  ((He.Fa.cls (nm c)).ok K && ((He.Fa.glo (nm c)).ok K && chkK K (nm c) (at_ cd.init))) && ((cd.fields.all fun f => (He.Fa.noat (nm c) (nm f)).ok K) && cd.meths.all fun p => chkM K (nm c) (nm p.1) (at_ p.2))
/-- .. and what is plain of it -/
def plnD (nm : Nat → Str) (fn : Nat → Option FD) (cd : CD) : Bool :=
  (fn cd.init).isSome && ((cd.fields.all fun f => cd.fields.all fun g => decide (nm f = nm g → f = g)) && cd.meths.all fun p => (fn p.2).isSome && decide (nm p.1 ∉ cd.fields.map nm))
theorem getM_mem {m f : Nat} : ∀ {l : List (Nat × Nat)}, getM m l = some f → (m, f) ∈ l
  | (g, x) :: r, h => by
    unfold getM at h
    split at h
    · rename_i e; cases h; subst e; exact List.mem_cons_self
    · exact List.mem_cons_of_mem _ (getM_mem h)
theorem chkD_ok {M : Mo} {at_ : Nat → Str × Option Str} {c : Nat} {cd : CD} {h : Heap} {mg : Str → Option Value} (X : M.K.In h) (G : h.Ns mainGlobals mg) (hc : M.ca c = He.ga M.K (M.nm c)) (hf : ∀ f, M.fa f = He.fAd M.K (at_ f)) (k : chkD M.nm at_ c cd M.K = true) (p : plnD M.nm M.G.fn cd = true) : ClsOk M mg c cd := by
  obtain ⟨k1, k2⟩ := ba k
  obtain ⟨k3, k4⟩ := ba k1
  obtain ⟨k5, k6⟩ := ba k4
  obtain ⟨k7, k8⟩ := ba k2
  obtain ⟨p1, p2⟩ := ba p
  obtain ⟨p3, p4⟩ := ba p2
  refine ⟨by rw [hc]; exact He.cls_ok k3, fun f hm => by rw [hc]; exact He.noat_ok (List.all_eq_true.mp k7 f hm), fun f h1 g h2 e => of_decide_eq_true (List.all_eq_true.mp (List.all_eq_true.mp p3 f h1) g h2) e, fun m f e => ?_, by rw [hc, hf]; exact chkK_ok k6, p1, by rw [hc]; exact He.glo_ok X G k5⟩
  obtain ⟨q1, q2⟩ := ba (List.all_eq_true.mp p4 _ (getM_mem e))
  exact ⟨by rw [hc, hf]; exact chkM_ok (List.all_eq_true.mp k8 _ (getM_mem e)), of_decide_eq_true q2, q1⟩
def getC (f : Nat) : List (Nat × CD) → Option CD
  | [] => none
  | (g, x) :: r => if g = f then some x else getC f r
theorem getC_mem {m : Nat} {f : CD} : ∀ {l : List (Nat × CD)}, getC m l = some f → (m, f) ∈ l
  | (g, x) :: r, h => by
    unfold getC at h
    split at h
    · rename_i e; cases h; subst e; exact List.mem_cons_self
    · exact List.mem_cons_of_mem _ (getC_mem h)
end Py

set_option linter.all false
set_option maxRecDepth 100000
/-! The text of law 63 in our syntax (printed by gen.py). -/
namespace Py
open PySem
abbrev n_within : Nat := 0
abbrev n_two_told : Nat := 1
abbrev n_entered : Nat := 2
abbrev n_two_done : Nat := 3
abbrev n_gone_on : Nat := 4
abbrev n_stack_behind : Nat := 5
abbrev n_own_done : Nat := 6
abbrev n__law_cell_at : Nat := 7
abbrev n__law_mixed : Nat := 8
abbrev n__law_tell_rows : Nat := 9
abbrev n__law_program : Nat := 10
abbrev n__law_answer : Nat := 11
abbrev n__law_remembered : Nat := 12
abbrev n__law_alike : Nat := 13
abbrev n_law : Nat := 14
abbrev n_Places : Nat := 15
abbrev n_Machine : Nat := 16
abbrev n_GREATEST : Nat := 17
abbrev n_SIGNS : Nat := 18
abbrev n_MOST_PAIRS : Nat := 19
abbrev n_MOST_WITHIN : Nat := 20
abbrev n_Places___init__ : Nat := 21
abbrev n_Places_asked : Nat := 22
abbrev n_Places_put : Nat := 23
abbrev n_Places_told : Nat := 24
abbrev n_Machine___init__ : Nat := 25
abbrev n_Machine_over : Nat := 26
abbrev n_Machine_block_for : Nat := 27
abbrev n_Machine_enter : Nat := 28
abbrev n_Machine_leave : Nat := 29
abbrev n_Machine_make : Nat := 30
abbrev n_Machine_set_one : Nat := 31
abbrev n_Machine_step : Nat := 32
abbrev n_Machine_frames : Nat := 33
abbrev n_Machine_things : Nat := 34
abbrev n_Machine_answer : Nat := 35
abbrev n_Machine_calls : Nat := 36
abbrev n_Machine_looks : Nat := 37
abbrev n_Machine_hits : Nat := 38
abbrev n_Machine_rows_done : Nat := 39
abbrev n_hits : Nat := 40
abbrev n_frames : Nat := 41
abbrev n_looks : Nat := 42
abbrev n_rows_done : Nat := 43
abbrev n_things : Nat := 44
abbrev n_calls : Nat := 45
abbrev n_answer : Nat := 46
abbrev n_step : Nat := 47
abbrev n_pairs : Nat := 48
abbrev n_ended : Nat := 49
abbrev n_gone : Nat := 50
abbrev n_met : Nat := 51
abbrev n_sought : Nat := 52
abbrev n_counted : Nat := 53
abbrev n_made : Nat := 54
abbrev n_pile : Nat := 55
abbrev n_code : Nat := 56
abbrev n_spots : Nat := 57
abbrev n_keeps : Nat := 58
abbrev n_bound : Nat := 59
abbrev n_by_house : Nat := 60
abbrev n_put : Nat := 61
abbrev n_asked : Nat := 62
abbrev n_over : Nat := 63
abbrev n_block_for : Nat := 64
abbrev n_leave : Nat := 65
abbrev n_enter : Nat := 66
abbrev n_make : Nat := 67
abbrev n_set_one : Nat := 68
abbrev n_told : Nat := 69
def tab0 : List Str := ["within", "two_told", "entered", "two_done", "gone_on", "stack_behind", "own_done", "_law_cell_at", "_law_mixed", "_law_tell_rows", "_law_program", "_law_answer", "_law_remembered", "_law_alike", "law", "Places", "Machine", "GREATEST", "SIGNS", "MOST_PAIRS", "MOST_WITHIN", "__init__", "asked", "put", "told", "__init__", "over", "block_for", "enter", "leave"]
def tab1 : List Str := ["make", "set_one", "step", "frames", "things", "answer", "calls", "looks", "hits", "rows_done", "hits", "frames", "looks", "rows_done", "things", "calls", "answer", "step", "pairs", "ended", "gone", "met", "sought", "counted", "made", "pile", "code", "spots", "keeps", "bound"]
def tab2 : List Str := ["by_house", "put", "asked", "over", "block_for", "leave", "enter", "make", "set_one", "told"]
def nmT (i : Nat) : Str := (tab0 ++ tab1 ++ tab2).getD i ""
/-- within(number) -/
def b_within : B :=
  (.cons (.ife (.or (.cmp .lt (.var 0) (.bin .sub (.int 0) (.glob n_GREATEST))) (.cmp .gt (.var 0) (.glob n_GREATEST))) (.cons (.ret (.tup (.cons (.str "refused") (.cons (.str "great") .nil))))
  .nil) .nil)
  (.cons (.ret (.tup (.cons (.str "value") (.cons (.var 0) .nil))))
  .nil))
def d_within : FD := ⟨1, 1, b_within, [], none⟩
/-- two_told(sign, a, b) -/
def b_two_told : B :=
  (.cons (.ife (.cmp .eq (.var 0) (.str "+")) (.cons (.ret (.call n_within (.cons (.bin .add (.var 1) (.var 2)) .nil)))
  .nil) .nil)
  (.cons (.ife (.cmp .eq (.var 0) (.str "-")) (.cons (.ret (.call n_within (.cons (.bin .sub (.var 1) (.var 2)) .nil)))
  .nil) .nil)
  (.cons (.ife (.cmp .eq (.var 0) (.str "*")) (.cons (.ret (.call n_within (.cons (.bin .mul (.var 1) (.var 2)) .nil)))
  .nil) .nil)
  (.cons (.ife (.cmp .eq (.var 0) (.str "<")) (.cons (.ret (.tup (.cons (.str "value") (.cons (.cmp .lt (.var 1) (.var 2)) .nil))))
  .nil) .nil)
  (.cons (.ife (.cmp .eq (.var 0) (.str "=")) (.cons (.ret (.tup (.cons (.str "value") (.cons (.cmp .eq (.var 1) (.var 2)) .nil))))
  .nil) .nil)
  (.cons (.ife (.cmp .eq (.var 2) (.int 0)) (.cons (.ret (.tup (.cons (.str "refused") (.cons (.str "nought") .nil))))
  .nil) .nil)
  (.cons (.ret (.call n_within (.cons (.bin .fdiv (.var 1) (.var 2)) .nil)))
  .nil)))))))
def d_two_told : FD := ⟨3, 3, b_two_told, [], none⟩
/-- entered(block, number, values, slots) -/
def b_entered : B :=
  (.cons (.asg (.nm 3) (.bin .add (.bf .tuple1 (.cons (.var 2) .nil)) (.bin .mul (.tup (.cons .non .nil)) (.bin .sub (.idx (.var 0) (.int 1)) (.bf .len (.cons (.var 2) .nil))))))
  (.cons (.ret (.tup (.cons (.var 1) (.cons (.int 0) (.cons (.var 3) (.cons (.tup .nil) .nil))))))
  .nil))
def d_entered : FD := ⟨3, 4, b_entered, [], none⟩
/-- two_done(word, one, other, sign, pair) -/
def b_two_done : B :=
  (.cons (.ife (.cmp .eq (.var 0) (.str "same")) (.cons (.ret (.tup (.cons (.str "value") (.cons (.cmp .eq (.var 1) (.var 2)) .nil))))
  .nil) .nil)
  (.cons (.asg (.nm 3) (.idx (.lc (.idx (.var 4) (.int 1)) (.nm 4) (.seq (.glob n_SIGNS)) (.so (.cmp .eq (.idx (.var 4) (.int 0)) (.var 0)))) (.int 0)))
  (.cons (.ret (.call n_two_told (.cons (.var 3) (.cons (.var 1) (.cons (.var 2) .nil)))))
  .nil)))
def d_two_done : FD := ⟨3, 5, b_two_done, [], none⟩
/-- gone_on(row, frame, number, at, slots, stack) -/
def b_gone_on : B :=
  (.cons (.asg (.tup (.cons (.nm 2) (.cons (.nm 3) (.cons (.nm 4) (.cons (.nm 5) .nil))))) (.var 1))
  (.cons (.ife (.cmp .eq (.idx (.var 0) (.int 0)) (.str "skip")) (.cons (.ret (.tup (.cons (.var 2) (.cons (.bin .add (.bin .add (.var 3) (.int 1)) (.idx (.var 0) (.int 1))) (.cons (.var 4) (.cons (.var 5) .nil))))))
  .nil) .nil)
  (.cons (.ife (.v (.idx (.var 5) (.neg (.int 1)))) (.cons (.ret (.tup (.cons (.var 2) (.cons (.bin .add (.var 3) (.int 1)) (.cons (.var 4) (.cons (.slc (.var 5) .no (.so (.neg (.int 1)))) .nil))))))
  .nil) .nil)
  (.cons (.ret (.tup (.cons (.var 2) (.cons (.bin .add (.bin .add (.var 3) (.int 1)) (.idx (.var 0) (.int 1))) (.cons (.var 4) (.cons (.slc (.var 5) .no (.so (.neg (.int 1)))) .nil))))))
  .nil))))
def d_gone_on : FD := ⟨2, 6, b_gone_on, [], none⟩
/-- stack_behind(row, slots, stack, things) -/
def b_stack_behind : B :=
  (.cons (.ife (.cmp .eq (.idx (.var 0) (.int 0)) (.str "push")) (.cons (.ret (.bin .add (.var 2) (.tup (.cons (.idx (.var 0) (.int 1)) .nil))))
  .nil) .nil)
  (.cons (.ife (.cmp .eq (.idx (.var 0) (.int 0)) (.str "load")) (.cons (.ret (.bin .add (.var 2) (.tup (.cons (.idx (.var 1) (.idx (.var 0) (.int 1))) .nil))))
  .nil) .nil)
  (.cons (.ife (.cmp .eq (.idx (.var 0) (.int 0)) (.str "not")) (.cons (.ret (.bin .add (.slc (.var 2) .no (.so (.neg (.int 1)))) (.tup (.cons (.nt (.idx (.var 2) (.neg (.int 1)))) .nil))))
  .nil) .nil)
  (.cons (.ife (.cmp .eq (.idx (.var 0) (.int 0)) (.str "get")) (.cons (.ret (.bin .add (.slc (.var 2) .no (.so (.neg (.int 1)))) (.tup (.cons (.idx (.idx (.idx (.var 3) (.idx (.idx (.var 2) (.neg (.int 1))) (.int 1))) (.int 1)) (.idx (.var 0) (.int 1))) .nil))))
  .nil) .nil)
  (.cons (.ret (.slc (.var 2) .no (.so (.neg (.int 1)))))
  .nil)))))
def d_stack_behind : FD := ⟨4, 4, b_stack_behind, [], none⟩
/-- own_done(row, frame, things, number, at, slots, stack, word, found, fresh) -/
def b_own_done : B :=
  (.cons (.asg (.tup (.cons (.nm 3) (.cons (.nm 4) (.cons (.nm 5) (.cons (.nm 6) .nil))))) (.var 1))
  (.cons (.asg (.nm 7) (.idx (.var 0) (.int 0)))
  (.cons (.ife (.cmp .inn (.var 7) (.tup (.cons (.str "skip") (.cons (.str "unless") .nil)))) (.cons (.ret (.tup (.cons (.call n_gone_on (.cons (.var 0) (.cons (.var 1) .nil))) (.cons .non .nil))))
  .nil) .nil)
  (.cons (.ife (.cmp .inn (.var 7) (.tup (.cons (.str "add") (.cons (.str "sub") (.cons (.str "mul") (.cons (.str "div") (.cons (.str "less") (.cons (.str "same") .nil)))))))) (.cons (.asg (.nm 8) (.call n_two_done (.cons (.var 7) (.cons (.idx (.var 6) (.neg (.int 2))) (.cons (.idx (.var 6) (.neg (.int 1))) .nil)))))
  (.cons (.ife (.cmp .eq (.idx (.var 8) (.int 0)) (.str "refused")) (.cons (.ret (.tup (.cons (.var 1) (.cons (.var 8) .nil))))
  .nil) .nil)
  (.cons (.ret (.tup (.cons (.tup (.cons (.var 3) (.cons (.bin .add (.var 4) (.int 1)) (.cons (.var 5) (.cons (.bin .add (.slc (.var 6) .no (.so (.neg (.int 2)))) (.tup (.cons (.idx (.var 8) (.int 1)) .nil))) .nil))))) (.cons .non .nil))))
  .nil))) .nil)
  (.cons (.asg (.nm 9) (.call n_stack_behind (.cons (.var 0) (.cons (.var 5) (.cons (.var 6) (.cons (.var 2) .nil))))))
  (.cons (.ife (.cmp .eq (.var 7) (.str "keep")) (.cons (.asg (.nm 5) (.bin .add (.bin .add (.slc (.var 5) .no (.so (.idx (.var 0) (.int 1)))) (.tup (.cons (.idx (.var 6) (.neg (.int 1))) .nil))) (.slc (.var 5) (.so (.bin .add (.idx (.var 0) (.int 1)) (.int 1))) .no)))
  .nil) .nil)
  (.cons (.ret (.tup (.cons (.tup (.cons (.var 3) (.cons (.bin .add (.var 4) (.int 1)) (.cons (.var 5) (.cons (.var 9) .nil))))) (.cons .non .nil))))
  .nil)))))))
def d_own_done : FD := ⟨3, 10, b_own_done, [], none⟩
/-- _law_cell_at(_law_script, _law_k) -/
def b__law_cell_at : B :=
  (.cons (.ife (.cmp .lt (.var 1) (.bf .len (.cons (.var 0) .nil))) (.cons (.ret (.idx (.var 0) (.var 1)))
  .nil) .nil)
  (.cons (.ret (.int 0))
  .nil))
def d__law_cell_at : FD := ⟨2, 2, b__law_cell_at, [], none⟩
/-- _law_mixed(_law_cell, _law_k, _law_number) -/
def b__law_mixed : B :=
  (.cons (.asg (.nm 2) (.bin .mod (.bin .add (.bin .add (.bin .mul (.var 0) (.int 48271)) (.bin .mul (.int 7919) (.var 1))) (.int 12345)) (.int 2147483647)))
  (.cons (.ret (.bin .mod (.bin .mul (.bin .mod (.bin .mul (.var 2) (.var 2)) (.int 2147483647)) (.var 2)) (.int 2147483647)))
  .nil))
def d__law_mixed : FD := ⟨2, 3, b__law_mixed, [], none⟩
/-- _law_tell_rows(_law_way) -/
def b__law_tell_rows : B :=
  (.cons (.ife (.cmp .eq (.bin .mod (.var 0) (.int 3)) (.int 2)) (.cons (.ret (.tup (.cons (.tup (.cons (.str "load") (.cons (.int 0) .nil))) (.cons (.tup (.cons (.str "load") (.cons (.int 1) .nil))) (.cons (.tup (.cons (.str "put") (.cons (.int 0) .nil))) (.cons (.tup (.cons (.str "load") (.cons (.int 0) .nil))) (.cons (.tup (.cons (.str "get") (.cons (.int 0) .nil))) (.cons (.tup (.cons (.str "add") .nil)) (.cons (.tup (.cons (.str "back") .nil)) .nil)))))))))
  .nil) .nil)
  (.cons (.ret (.tup (.cons (.tup (.cons (.str "load") (.cons (.int 1) .nil))) (.cons (.tup (.cons (.str "load") (.cons (.int 0) .nil))) (.cons (.tup (.cons (.str "get") (.cons (.int 0) .nil))) (.cons (.tup (.cons (.idx (.lst (.cons (.str "add") (.cons (.str "sub") .nil))) (.bin .mod (.var 0) (.int 3))) .nil)) (.cons (.tup (.cons (.str "back") .nil)) .nil)))))))
  .nil))
def d__law_tell_rows : FD := ⟨1, 1, b__law_tell_rows, [], none⟩
/-- _law_program(_law_script, _law_one, _law_many, _law_ways, _law_go, _law_blocks, _law_laid, _law_house, _law_homes, _law_values, _law_count, _law_main, _law_k, _law_way, _law_row) -/
def b__law_program : B :=
  (.cons (.asg (.nm 1) (.call n__law_cell_at (.cons (.var 0) (.cons (.int 0) .nil))))
  (.cons (.asg (.nm 2) (.bin .add (.int 1) (.bin .mod (.var 1) (.int 4))))
  (.cons (.asg (.nm 3) (.lc (.call n__law_mixed (.cons (.call n__law_cell_at (.cons (.var 0) (.cons (.int 1) .nil))) (.cons (.var 12) .nil))) (.nm 12) (.rng1 (.bin .add (.int 1) (.bin .mod (.bin .fdiv (.var 1) (.int 4)) (.int 3)))) .no))
  (.cons (.asg (.nm 4) (.tup (.cons (.tup (.cons (.str "load") (.cons (.int 1) .nil))) (.cons (.tup (.cons (.str "push") (.cons (.int 0) .nil))) (.cons (.tup (.cons (.str "same") .nil)) (.cons (.tup (.cons (.str "unless") (.cons (.int 2) .nil))) (.cons (.tup (.cons (.str "push") (.cons (.bin .mod (.bin .fdiv (.var 1) (.int 12)) (.int 50)) .nil))) (.cons (.tup (.cons (.str "back") .nil)) (.cons (.tup (.cons (.str "load") (.cons (.int 2) .nil))) .nil)))))))))
  (.cons (.asg (.nm 4) (.bin .add (.var 4) (.tup (.cons (.tup (.cons (.str "load") (.cons (.int 1) .nil))) (.cons (.tup (.cons (.str "call") (.cons (.int 0) (.cons (.int 0) (.cons (.int 2) .nil))))) (.cons (.tup (.cons (.str "keep") (.cons (.int 5) .nil))) (.cons (.tup (.cons (.str "load") (.cons (.int 0) .nil))) (.cons (.tup (.cons (.str "load") (.cons (.int 1) .nil))) (.cons (.tup (.cons (.str "push") (.cons (.int 1) .nil))) (.cons (.tup (.cons (.str "sub") .nil)) .nil))))))))))
  (.cons (.asg (.nm 4) (.bin .add (.var 4) (.tup (.cons (.tup (.cons (.str "load") (.cons (.int 3) .nil))) (.cons (.tup (.cons (.str "load") (.cons (.int 4) .nil))) (.cons (.tup (.cons (.str "load") (.cons (.int 2) .nil))) (.cons (.tup (.cons (.str "call") (.cons (.int 1) (.cons (.int 1) (.cons (.int 5) .nil))))) (.cons (.tup (.cons (.str "load") (.cons (.int 5) .nil))) (.cons (.tup (.cons (.str "add") .nil)) (.cons (.tup (.cons (.str "back") .nil)) .nil))))))))))
  (.cons (.asg (.nm 5) (.bin .add (.lc (.tup (.cons (.int 2) (.cons (.int 2) (.cons (.call n__law_tell_rows (.cons (.var 13) .nil)) .nil)))) (.nm 13) (.seq (.var 3)) .no) (.lst (.cons (.tup (.cons (.int 5) (.cons (.int 6) (.cons (.var 4) .nil)))) .nil))))
  (.cons (.asg (.nm 6) (.lst .nil))
  (.cons (.for (.nm 7) (.rng1 (.var 2)) (.cons (.exp (.bm .append (.var 6) (.cons (.lst (.cons (.bin .mod (.call n__law_mixed (.cons (.bin .add (.call n__law_cell_at (.cons (.var 0) (.cons (.int 2) .nil))) (.var 7)) (.cons (.int 3) .nil))) (.bf .len (.cons (.var 3) .nil))) (.cons (.bf .len (.cons (.var 3) .nil)) (.cons .non .nil)))) .nil)))
  .nil))
  (.cons (.asg (.nm 8) (.lc (.bin .mod (.call n__law_mixed (.cons (.bin .add (.call n__law_cell_at (.cons (.var 0) (.cons (.int 3) .nil))) (.var 12)) (.cons (.int 5) .nil))) (.var 2)) (.nm 12) (.rng1 (.int 4)) .no))
  (.cons (.asg (.nm 9) (.lc (.bin .sub (.bin .mod (.bin .fdiv (.call n__law_cell_at (.cons (.var 0) (.cons (.int 4) .nil))) (.bin .add (.int 1) (.bin .mul (.int 3) (.var 12)))) (.int 1000)) (.int 500)) (.nm 12) (.rng1 (.int 4)) .no))
  (.cons (.asg (.nm 10) (.bin .mod (.bin .fdiv (.call n__law_cell_at (.cons (.var 0) (.cons (.int 5) .nil))) (.int 8)) (.idx (.lst (.cons (.int 13) (.cons (.int 46) .nil))) (.bf .int1 (.cons (.cmp .eq (.bin .mod (.call n__law_cell_at (.cons (.var 0) (.cons (.int 5) .nil))) (.int 8)) (.int 3)) .nil)))))
  (.cons (.asg (.nm 11) (.lst (.cons (.tup (.cons (.str "push") (.cons (.idx (.var 9) (.int 0)) .nil))) (.cons (.tup (.cons (.str "make") (.cons (.idx (.var 8) (.int 0)) (.cons (.int 1) .nil)))) (.cons (.tup (.cons (.str "push") (.cons (.var 10) .nil))) .nil)))))
  (.cons (.for (.nm 12) (.rng2 (.int 1) (.int 4)) (.cons (.exp (.bm .extend (.var 11) (.cons (.lst (.cons (.tup (.cons (.str "push") (.cons (.idx (.var 9) (.var 12)) .nil))) (.cons (.tup (.cons (.str "make") (.cons (.idx (.var 8) (.var 12)) (.cons (.int 1) .nil)))) .nil))) .nil)))
  .nil))
  (.cons (.exp (.bm .append (.var 5) (.cons (.tup (.cons (.int 0) (.cons (.int 0) (.cons (.bf .tuple1 (.cons (.bin .add (.var 11) (.lst (.cons (.tup (.cons (.str "call") (.cons (.int 2) (.cons (.int 1) (.cons (.int 5) .nil))))) (.cons (.tup (.cons (.str "back") .nil)) .nil)))) .nil)) .nil)))) .nil)))
  (.cons (.ret (.tup (.cons (.var 5) (.cons (.var 6) (.cons (.lc (.bin .mod (.idx (.var 3) (.idx (.var 14) (.int 0))) (.int 3)) (.nm 14) (.seq (.var 6)) .no) (.cons (.var 8) (.cons (.var 9) (.cons (.var 10) (.cons (.bin .mod (.bin .fdiv (.var 1) (.int 12)) (.int 50)) .nil)))))))))
  .nil))))))))))))))))
def d__law_program : FD := ⟨1, 15, b__law_program, [], none⟩
/-- _law_answer(_law_program_here, _law_most, _law_ways, _law_homes, _law_values, _law_count, _law_last, _law_sites, _law_fields, _law_total, _law_calls, _law_turn, _law_level, _law_number, _law_site, _law_house, _law_way, _law_told) -/
def b__law_answer : B :=
  (.cons (.asg (.tup (.cons (.nm 2) (.cons (.nm 3) (.cons (.nm 4) (.cons (.nm 5) (.cons (.nm 6) .nil)))))) (.slc (.var 0) (.so (.int 2)) .no))
  (.cons (.asg (.nm 7) (.lst (.cons (.tup (.cons (.int 2) (.cons (.idx (.var 3) (.int 0)) .nil))) .nil)))
  (.cons (.ife (.cmp .eq (.var 1) (.int 0)) (.cons (.ret (.tup (.cons (.tup (.cons (.str "dry") .nil)) (.cons (.int 0) (.cons (.var 7) .nil)))))
  .nil) .nil)
  (.cons (.asg (.nm 8) (.bf .list1 (.cons (.var 4) .nil)))
  (.cons (.asg (.nm 9) (.var 6))
  (.cons (.asg (.nm 10) (.int 1))
  (.cons (.asg (.nm 11) (.lst (.cons (.int 1) (.cons (.int 2) (.cons (.int 3) .nil)))))
  (.cons (.for (.nm 12) (.rng1 (.var 5)) (.cons (.asg (.nm 13) (.bin .sub (.var 5) (.var 12)))
  (.cons (.for (.tup (.cons (.nm 14) (.cons (.nm 15) .nil))) (.seq (.lst (.cons (.tup (.cons (.int 0) (.cons (.idx (.var 3) (.idx (.var 11) (.int 0))) .nil))) (.cons (.tup (.cons (.int 1) (.cons (.idx (.var 3) (.int 0)) .nil))) .nil)))) (.cons (.exp (.bm .append (.var 7) (.cons (.tup (.cons (.var 14) (.cons (.var 15) .nil))) .nil)))
  (.cons (.ife (.cmp .eq (.var 10) (.var 1)) (.cons (.ret (.tup (.cons (.tup (.cons (.str "dry") .nil)) (.cons (.var 10) (.cons (.var 7) .nil)))))
  .nil) .nil)
  (.cons (.asg (.nm 10) (.bin .add (.var 10) (.int 1)))
  (.cons (.ife (.cmp .eq (.var 12) (.int 39)) (.cons (.ret (.tup (.cons (.tup (.cons (.str "deep") .nil)) (.cons (.var 10) (.cons (.var 7) .nil)))))
  .nil) .nil)
  (.cons (.ife (.cmp .eq (.var 14) (.int 0)) (.cons (.asg (.nm 16) (.idx (.var 2) (.idx (.var 3) (.idx (.var 11) (.int 0)))))
  (.cons (.asg (.nm 17) (.idx (.lst (.cons (.bin .add (.var 13) (.idx (.var 8) (.idx (.var 11) (.int 0)))) (.cons (.bin .sub (.var 13) (.idx (.var 8) (.idx (.var 11) (.int 0)))) (.cons (.bin .add (.var 13) (.var 13)) .nil)))) (.var 16)))
  (.cons (.asg (.sub (.var 8) (.idx (.var 11) (.int 0))) (.idx (.lst (.cons (.idx (.var 8) (.idx (.var 11) (.int 0))) (.cons (.idx (.var 8) (.idx (.var 11) (.int 0))) (.cons (.var 13) .nil)))) (.var 16)))
  (.cons (.asg (.nm 9) (.bin .add (.var 9) (.var 17)))
  .nil)))) .nil)
  .nil))))))
  (.cons (.asg (.nm 11) (.bin .add (.slc (.var 11) (.so (.int 1)) .no) (.slc (.var 11) .no (.so (.int 1)))))
  .nil))))
  (.cons (.ret (.tup (.cons (.tup (.cons (.str "value") (.cons (.var 9) .nil))) (.cons (.var 10) (.cons (.var 7) .nil)))))
  .nil)))))))))
def d__law_answer : FD := ⟨2, 18, b__law_answer, [], none⟩
/-- _law_remembered(_law_sites, _law_known, _law_hits, _law_site, _law_house, _law_row, _law_one) -/
def b__law_remembered : B :=
  (.cons (.asg (.nm 1) .dic0)
  (.cons (.asg (.nm 2) (.int 0))
  (.cons (.for (.tup (.cons (.nm 3) (.cons (.nm 4) .nil))) (.seq (.var 0)) (.cons (.asg (.nm 5) (.dget (.var 1) (.var 3) (.lst .nil)))
  (.cons (.ife (.cmp .inn (.var 4) (.var 5)) (.cons (.asg (.nm 2) (.bin .add (.var 2) (.int 1)))
  .nil) .nil)
  (.cons (.asg (.sub (.var 1) (.var 3)) (.slc (.bin .add (.lst (.cons (.var 4) .nil)) (.lc (.var 6) (.nm 6) (.seq (.var 5)) (.so (.cmp .ne (.var 6) (.var 4))))) .no (.so (.int 2))))
  .nil))))
  (.cons (.ret (.lst (.cons (.bin .sub (.bf .len (.cons (.var 0) .nil)) (.var 2)) (.cons (.var 2) .nil))))
  .nil))))
def d__law_remembered : FD := ⟨1, 7, b__law_remembered, [], none⟩
/-- _law_alike(_law_one, _law_other, _law_bits, _law_pairs, _law_pair) -/
def b__law_alike : B :=
  (.cons (.asg (.nm 3) (.ite (.cmp .eq (.bin .mod (.var 2) (.int 2)) (.int 0)) (.lst (.cons (.tup (.cons (.meth (.var 0) n_frames .nil) (.cons (.meth (.var 1) n_frames .nil) .nil))) .nil)) (.lst .nil)))
  (.cons (.asg (.nm 3) (.bin .add (.var 3) (.lst (.cons (.tup (.cons (.meth (.var 0) n_answer .nil) (.cons (.meth (.var 1) n_answer .nil) .nil))) (.cons (.tup (.cons (.meth (.var 0) n_calls .nil) (.cons (.meth (.var 1) n_calls .nil) .nil))) (.cons (.tup (.cons (.meth (.var 0) n_things .nil) (.cons (.meth (.var 1) n_things .nil) .nil))) .nil))))))
  (.cons (.asg (.nm 3) (.bin .add (.var 3) (.lst (.cons (.tup (.cons (.meth (.var 0) n_rows_done .nil) (.cons (.meth (.var 1) n_rows_done .nil) .nil))) (.cons (.tup (.cons (.bin .add (.meth (.var 0) n_looks .nil) (.meth (.var 0) n_hits .nil)) (.cons (.meth (.var 1) n_looks .nil) .nil))) .nil)))))
  (.cons (.exp (.bm .append (.var 3) (.cons (.tup (.cons (.meth (.var 0) n_frames .nil) (.cons (.meth (.var 1) n_frames .nil) .nil))) .nil)))
  (.cons (.ret (.and (.cmp .eq (.lc (.var 4) (.nm 4) (.seq (.var 3)) (.so (.cmp .ne (.bf .repr1 (.cons (.idx (.var 4) (.int 0)) .nil)) (.bf .repr1 (.cons (.idx (.var 4) (.int 1)) .nil))))) (.lst .nil)) (.cmp .eq (.meth (.var 1) n_hits .nil) (.int 0))))
  .nil)))))
def d__law_alike : FD := ⟨3, 5, b__law_alike, [], none⟩
/-- law(_law_script, _law_program_here, _law_most, _law_one, _law_other, _law_is_long, _law_turn, _law_ended, _law_calls, _law_sites, _law_row) -/
def b_law : B :=
  (.cons (.asg (.nm 1) (.call n__law_program (.cons (.var 0) .nil)))
  (.cons (.asg (.nm 2) (.bin .mod (.bin .fdiv (.call n__law_cell_at (.cons (.var 0) (.cons (.int 6) .nil))) (.int 2)) (.int 101)))
  (.cons (.ife (.cmp .eq (.bin .mod (.call n__law_cell_at (.cons (.var 0) (.cons (.int 6) .nil))) (.int 2)) (.int 1)) (.cons (.asg (.nm 2) (.bf .max2 (.cons (.int 0) (.cons (.bin .add (.bin .mul (.int 2) (.idx (.var 1) (.int 5))) (.bin .mod (.bin .fdiv (.call n__law_cell_at (.cons (.var 0) (.cons (.int 6) .nil))) (.int 2)) (.int 3))) .nil))))
  .nil) .nil)
  (.cons (.asg (.nm 3) (.mk n_Machine (.cons (.bf .list1 (.cons (.idx (.var 1) (.int 0)) .nil)) (.cons (.lc (.bf .list1 (.cons (.var 10) .nil)) (.nm 10) (.seq (.idx (.var 1) (.int 1))) .no) (.cons (.lst .nil) (.cons (.var 2) (.cons (.bl true) .nil)))))))
  (.cons (.asg (.nm 4) (.mk n_Machine (.cons (.bf .list1 (.cons (.idx (.var 1) (.int 0)) .nil)) (.cons (.lc (.bf .list1 (.cons (.var 10) .nil)) (.nm 10) (.seq (.idx (.var 1) (.int 1))) .no) (.cons (.lst .nil) (.cons (.var 2) (.cons (.bl false) .nil)))))))
  (.cons (.asg (.nm 5) (.cmp .gt (.idx (.var 1) (.int 5)) (.int 12)))
  (.cons (.asg (.nm 6) (.int 0))
  (.cons (.whl (.v (.meth (.var 3) n_step .nil)) (.cons (.asg (.nm 6) (.bin .add (.var 6) (.int 1)))
  (.cons (.ife (.or (.cmp .notN (.meth (.var 4) n_step .nil) (.bl true)) (.cmp .gt (.var 6) (.int 1500))) (.cons (.ret (.bl false))
  .nil) .nil)
  (.cons (.ife (.and (.nt (.v (.var 5))) (.nt (.v (.call n__law_alike (.cons (.var 3) (.cons (.var 4) (.cons (.call n__law_mixed (.cons (.call n__law_cell_at (.cons (.var 0) (.cons (.int 7) .nil))) (.cons (.var 6) .nil))) .nil))))))) (.cons (.ret (.bl false))
  .nil) .nil)
  .nil))))
  (.cons (.ife (.or (.cmp .notN (.meth (.var 4) n_step .nil) (.bl false)) (.nt (.v (.call n__law_alike (.cons (.var 3) (.cons (.var 4) (.cons (.int 0) .nil))))))) (.cons (.ret (.bl false))
  .nil) .nil)
  (.cons (.asg (.tup (.cons (.nm 7) (.cons (.nm 8) (.cons (.nm 9) .nil)))) (.call n__law_answer (.cons (.var 1) (.cons (.var 2) .nil))))
  (.cons (.ret (.cmp .eq (.bf .repr1 (.cons (.lst (.cons (.meth (.var 3) n_answer .nil) (.cons (.meth (.var 3) n_calls .nil) (.cons (.lst (.cons (.meth (.var 3) n_looks .nil) (.cons (.meth (.var 3) n_hits .nil) .nil))) .nil)))) .nil)) (.bf .repr1 (.cons (.lst (.cons (.var 7) (.cons (.var 8) (.cons (.call n__law_remembered (.cons (.var 9) .nil)) .nil)))) .nil))))
  .nil)))))))))))
def d_law : FD := ⟨1, 11, b_law, [], none⟩
/-- Places.__init__(self) -/
def b_Places___init__ : B :=
  (.cons (.asg (.attr (.var 0) n_pairs) .dic0)
  .nil)
def d_Places___init__ : FD := ⟨1, 1, b_Places___init__, [], none⟩
/-- Places.asked(self, site, house, row, pair, other) -/
def b_Places_asked : B :=
  (.cons (.asg (.nm 3) (.dget (.attr (.var 0) n_pairs) (.var 1) (.lst .nil)))
  (.cons (.for (.nm 4) (.seq (.var 3)) (.cons (.ife (.cmp .eq (.idx (.var 4) (.int 0)) (.var 2)) (.cons (.asg (.sub (.attr (.var 0) n_pairs) (.var 1)) (.bin .add (.lst (.cons (.var 4) .nil)) (.lc (.var 5) (.nm 5) (.seq (.var 3)) (.so (.cmp .ne (.var 5) (.var 4))))))
  (.cons (.ret (.idx (.var 4) (.int 1)))
  .nil)) .nil)
  .nil))
  (.cons (.ret .non)
  .nil)))
def d_Places_asked : FD := ⟨3, 6, b_Places_asked, [], none⟩
/-- Places.put(self, site, house, block) -/
def b_Places_put : B :=
  (.cons (.asg (.sub (.attr (.var 0) n_pairs) (.var 1)) (.slc (.bin .add (.lst (.cons (.tup (.cons (.var 2) (.cons (.var 3) .nil))) .nil)) (.dget (.attr (.var 0) n_pairs) (.var 1) (.lst .nil))) .no (.so (.glob n_MOST_PAIRS))))
  .nil)
def d_Places_put : FD := ⟨4, 4, b_Places_put, [], none⟩
/-- Places.told(self, site) -/
def b_Places_told : B :=
  (.cons (.ret (.bf .list1 (.cons (.dget (.attr (.var 0) n_pairs) (.var 1) (.lst .nil)) .nil)))
  .nil)
def d_Places_told : FD := ⟨2, 2, b_Places_told, [], none⟩
/-- Machine.__init__(self, blocks, tables, numbers, most, remembers, table) -/
def b_Machine___init__ : B :=
  (.cons (.asg (.attr (.var 0) n_code) (.bf .list1 (.cons (.var 1) .nil)))
  (.cons (.asg (.attr (.var 0) n_by_house) (.lc (.bf .list1 (.cons (.var 6) .nil)) (.nm 6) (.seq (.var 2)) .no))
  (.cons (.asg (.attr (.var 0) n_bound) (.var 4))
  (.cons (.asg (.attr (.var 0) n_keeps) (.var 5))
  (.cons (.asg (.attr (.var 0) n_spots) (.mk n_Places .nil))
  (.cons (.asg (.attr (.var 0) n_pile) (.lst (.cons (.call n_entered (.cons (.idx (.attr (.var 0) n_code) (.neg (.int 1))) (.cons (.bin .sub (.bf .len (.cons (.attr (.var 0) n_code) .nil)) (.int 1)) (.cons (.var 3) .nil)))) .nil)))
  (.cons (.asg (.attr (.var 0) n_made) (.lst .nil))
  (.cons (.asg (.attr (.var 0) n_counted) (.int 0))
  (.cons (.asg (.attr (.var 0) n_sought) (.int 0))
  (.cons (.asg (.attr (.var 0) n_met) (.int 0))
  (.cons (.asg (.attr (.var 0) n_gone) (.int 0))
  (.cons (.asg (.attr (.var 0) n_ended) .non)
  .nil))))))))))))
def d_Machine___init__ : FD := ⟨6, 7, b_Machine___init__, [(.int 100), (.bl true)], none⟩
/-- Machine.over(self, found) -/
def b_Machine_over : B :=
  (.cons (.asg (.attr (.var 0) n_ended) (.var 1))
  (.cons (.asg (.attr (.var 0) n_pile) (.lst .nil))
  .nil))
def d_Machine_over : FD := ⟨2, 2, b_Machine_over, [], none⟩
/-- Machine.block_for(self, site, word, thing, house, block) -/
def b_Machine_block_for : B :=
  (.cons (.asg (.nm 4) (.idx (.idx (.attr (.var 0) n_made) (.idx (.var 3) (.int 1))) (.int 0)))
  (.cons (.ife (.v (.attr (.var 0) n_keeps)) (.cons (.asg (.nm 5) (.meth (.attr (.var 0) n_spots) n_asked (.cons (.var 1) (.cons (.var 4) .nil))))
  (.cons (.ife (.cmp .notN (.var 5) .non) (.cons (.augF (.var 0) n_met .add (.int 1))
  (.cons (.ret (.var 5))
  .nil)) .nil)
  .nil)) .nil)
  (.cons (.augF (.var 0) n_sought .add (.int 1))
  (.cons (.asg (.nm 5) (.idx (.idx (.attr (.var 0) n_by_house) (.var 4)) (.var 2)))
  (.cons (.ife (.v (.attr (.var 0) n_keeps)) (.cons (.exp (.meth (.attr (.var 0) n_spots) n_put (.cons (.var 1) (.cons (.var 4) (.cons (.var 5) .nil)))))
  .nil) .nil)
  (.cons (.ret (.var 5))
  .nil))))))
def d_Machine_block_for : FD := ⟨4, 6, b_Machine_block_for, [], none⟩
/-- Machine.enter(self, row, frame, number, at, slots, stack, rest, values, block) -/
def b_Machine_enter : B :=
  (.cons (.asg (.tup (.cons (.nm 3) (.cons (.nm 4) (.cons (.nm 5) (.cons (.nm 6) .nil))))) (.var 2))
  (.cons (.asg (.nm 7) (.bin .sub (.bf .len (.cons (.var 6) .nil)) (.idx (.var 1) (.neg (.int 1)))))
  (.cons (.asg (.nm 8) (.slc (.var 6) (.so (.var 7)) .no))
  (.cons (.ife (.cmp .eq (.idx (.var 1) (.int 0)) (.str "call")) (.cons (.asg (.nm 9) (.meth (.var 0) n_block_for (.cons (.idx (.var 1) (.int 1)) (.cons (.idx (.var 1) (.int 2)) (.cons (.idx (.var 8) (.int 0)) .nil)))))
  .nil) (.cons (.asg (.nm 9) (.idx (.var 1) (.int 1)))
  .nil))
  (.cons (.ife (.cmp .eq (.attr (.var 0) n_counted) (.attr (.var 0) n_bound)) (.cons (.exp (.meth (.var 0) n_over (.cons (.tup (.cons (.str "dry") .nil)) .nil)))
  (.cons .retN
  .nil)) .nil)
  (.cons (.augF (.var 0) n_counted .add (.int 1))
  (.cons (.ife (.cmp .gt (.bf .len (.cons (.attr (.var 0) n_pile) .nil)) (.glob n_MOST_WITHIN)) (.cons (.exp (.meth (.var 0) n_over (.cons (.tup (.cons (.str "deep") .nil)) .nil)))
  (.cons .retN
  .nil)) .nil)
  (.cons (.asg (.sub (.attr (.var 0) n_pile) (.neg (.int 1))) (.tup (.cons (.var 3) (.cons (.bin .add (.var 4) (.int 1)) (.cons (.var 5) (.cons (.slc (.var 6) .no (.so (.var 7))) .nil))))))
  (.cons (.exp (.bm .append (.attr (.var 0) n_pile) (.cons (.call n_entered (.cons (.idx (.attr (.var 0) n_code) (.var 9)) (.cons (.var 9) (.cons (.var 8) .nil)))) .nil)))
  .nil)))))))))
def d_Machine_enter : FD := ⟨3, 10, b_Machine_enter, [], none⟩
/-- Machine.leave(self, value, number, at, slots, stack) -/
def b_Machine_leave : B :=
  (.cons (.asg (.nm 1) (.idx (.idx (.bm .pop0 (.attr (.var 0) n_pile) .nil) (.int 3)) (.neg (.int 1))))
  (.cons (.ife (.cmp .ne (.attr (.var 0) n_pile) (.lst .nil)) (.cons (.asg (.tup (.cons (.nm 2) (.cons (.nm 3) (.cons (.nm 4) (.cons (.nm 5) .nil))))) (.idx (.attr (.var 0) n_pile) (.neg (.int 1))))
  (.cons (.asg (.sub (.attr (.var 0) n_pile) (.neg (.int 1))) (.tup (.cons (.var 2) (.cons (.var 3) (.cons (.var 4) (.cons (.bin .add (.var 5) (.tup (.cons (.var 1) .nil))) .nil))))))
  .nil)) (.cons (.ife (.v (.isi .isTuple (.var 1))) (.cons (.exp (.meth (.var 0) n_over (.cons (.tup (.cons (.str "thing") (.cons (.idx (.idx (.attr (.var 0) n_made) (.idx (.var 1) (.int 1))) (.int 0)) .nil))) .nil)))
  .nil) (.cons (.exp (.meth (.var 0) n_over (.cons (.tup (.cons (.str "value") (.cons (.var 1) .nil))) .nil)))
  .nil))
  .nil))
  .nil))
def d_Machine_leave : FD := ⟨1, 6, b_Machine_leave, [], none⟩
/-- Machine.make(self, row, frame, number, at, slots, stack, rest) -/
def b_Machine_make : B :=
  (.cons (.asg (.tup (.cons (.nm 3) (.cons (.nm 4) (.cons (.nm 5) (.cons (.nm 6) .nil))))) (.var 2))
  (.cons (.asg (.nm 7) (.bin .sub (.bf .len (.cons (.var 6) .nil)) (.idx (.var 1) (.int 2))))
  (.cons (.exp (.bm .append (.attr (.var 0) n_made) (.cons (.tup (.cons (.idx (.var 1) (.int 1)) (.cons (.slc (.var 6) (.so (.var 7)) .no) .nil))) .nil)))
  (.cons (.asg (.sub (.attr (.var 0) n_pile) (.neg (.int 1))) (.tup (.cons (.var 3) (.cons (.bin .add (.var 4) (.int 1)) (.cons (.var 5) (.cons (.bin .add (.slc (.var 6) .no (.so (.var 7))) (.tup (.cons (.tup (.cons (.str "thing") (.cons (.bin .sub (.bf .len (.cons (.attr (.var 0) n_made) .nil)) (.int 1)) .nil))) .nil))) .nil))))))
  .nil))))
def d_Machine_make : FD := ⟨3, 8, b_Machine_make, [], none⟩
/-- Machine.set_one(self, row, frame, number, at, slots, stack, which, house, values) -/
def b_Machine_set_one : B :=
  (.cons (.asg (.tup (.cons (.nm 3) (.cons (.nm 4) (.cons (.nm 5) (.cons (.nm 6) .nil))))) (.var 2))
  (.cons (.asg (.nm 7) (.idx (.idx (.var 6) (.neg (.int 2))) (.int 1)))
  (.cons (.asg (.tup (.cons (.nm 8) (.cons (.nm 9) .nil))) (.idx (.attr (.var 0) n_made) (.var 7)))
  (.cons (.asg (.sub (.attr (.var 0) n_made) (.var 7)) (.tup (.cons (.var 8) (.cons (.bin .add (.bin .add (.slc (.var 9) .no (.so (.idx (.var 1) (.int 1)))) (.tup (.cons (.idx (.var 6) (.neg (.int 1))) .nil))) (.slc (.var 9) (.so (.bin .add (.idx (.var 1) (.int 1)) (.int 1))) .no)) .nil))))
  (.cons (.asg (.sub (.attr (.var 0) n_pile) (.neg (.int 1))) (.tup (.cons (.var 3) (.cons (.bin .add (.var 4) (.int 1)) (.cons (.var 5) (.cons (.bin .add (.slc (.var 6) .no (.so (.neg (.int 2)))) (.tup (.cons (.idx (.var 6) (.neg (.int 1))) .nil))) .nil))))))
  .nil)))))
def d_Machine_set_one : FD := ⟨3, 10, b_Machine_set_one, [], none⟩
/-- Machine.step(self, frame, row, fresh, refused) -/
def b_Machine_step : B :=
  (.cons (.ife (.cmp .eq (.attr (.var 0) n_pile) (.lst .nil)) (.cons (.ret (.bl false))
  .nil) .nil)
  (.cons (.asg (.nm 1) (.idx (.attr (.var 0) n_pile) (.neg (.int 1))))
  (.cons (.asg (.nm 2) (.idx (.idx (.idx (.attr (.var 0) n_code) (.idx (.var 1) (.int 0))) (.int 2)) (.idx (.var 1) (.int 1))))
  (.cons (.augF (.var 0) n_gone .add (.int 1))
  (.cons (.ife (.cmp .eq (.idx (.var 2) (.int 0)) (.str "back")) (.cons (.exp (.meth (.var 0) n_leave .nil))
  .nil) (.cons (.ife (.cmp .inn (.idx (.var 2) (.int 0)) (.tup (.cons (.str "call") (.cons (.str "straight") .nil)))) (.cons (.exp (.meth (.var 0) n_enter (.cons (.var 2) (.cons (.var 1) .nil))))
  .nil) (.cons (.ife (.cmp .eq (.idx (.var 2) (.int 0)) (.str "make")) (.cons (.exp (.meth (.var 0) n_make (.cons (.var 2) (.cons (.var 1) .nil))))
  .nil) (.cons (.ife (.cmp .eq (.idx (.var 2) (.int 0)) (.str "put")) (.cons (.exp (.meth (.var 0) n_set_one (.cons (.var 2) (.cons (.var 1) .nil))))
  .nil) (.cons (.asg (.tup (.cons (.nm 3) (.cons (.nm 4) .nil))) (.call n_own_done (.cons (.var 2) (.cons (.var 1) (.cons (.attr (.var 0) n_made) .nil)))))
  (.cons (.asg (.sub (.attr (.var 0) n_pile) (.neg (.int 1))) (.var 3))
  (.cons (.ife (.cmp .notN (.var 4) .non) (.cons (.exp (.meth (.var 0) n_over (.cons (.var 4) .nil)))
  .nil) .nil)
  .nil))))
  .nil))
  .nil))
  .nil))
  (.cons (.ret (.bl true))
  .nil))))))
def d_Machine_step : FD := ⟨1, 5, b_Machine_step, [], none⟩
/-- Machine.frames(self) -/
def b_Machine_frames : B :=
  (.cons (.ret (.bf .list1 (.cons (.attr (.var 0) n_pile) .nil)))
  .nil)
def d_Machine_frames : FD := ⟨1, 1, b_Machine_frames, [], none⟩
/-- Machine.things(self) -/
def b_Machine_things : B :=
  (.cons (.ret (.bf .list1 (.cons (.attr (.var 0) n_made) .nil)))
  .nil)
def d_Machine_things : FD := ⟨1, 1, b_Machine_things, [], none⟩
/-- Machine.answer(self) -/
def b_Machine_answer : B :=
  (.cons (.ret (.attr (.var 0) n_ended))
  .nil)
def d_Machine_answer : FD := ⟨1, 1, b_Machine_answer, [], none⟩
/-- Machine.calls(self) -/
def b_Machine_calls : B :=
  (.cons (.ret (.attr (.var 0) n_counted))
  .nil)
def d_Machine_calls : FD := ⟨1, 1, b_Machine_calls, [], none⟩
/-- Machine.looks(self) -/
def b_Machine_looks : B :=
  (.cons (.ret (.attr (.var 0) n_sought))
  .nil)
def d_Machine_looks : FD := ⟨1, 1, b_Machine_looks, [], none⟩
/-- Machine.hits(self) -/
def b_Machine_hits : B :=
  (.cons (.ret (.attr (.var 0) n_met))
  .nil)
def d_Machine_hits : FD := ⟨1, 1, b_Machine_hits, [], none⟩
/-- Machine.rows_done(self) -/
def b_Machine_rows_done : B :=
  (.cons (.ret (.attr (.var 0) n_gone))
  .nil)
def d_Machine_rows_done : FD := ⟨1, 1, b_Machine_rows_done, [], none⟩
def fdsT : List (Nat × FD) := [(n_within, d_within), (n_two_told, d_two_told), (n_entered, d_entered), (n_two_done, d_two_done), (n_gone_on, d_gone_on), (n_stack_behind, d_stack_behind), (n_own_done, d_own_done), (n__law_cell_at, d__law_cell_at), (n__law_mixed, d__law_mixed), (n__law_tell_rows, d__law_tell_rows), (n__law_program, d__law_program), (n__law_answer, d__law_answer), (n__law_remembered, d__law_remembered), (n__law_alike, d__law_alike), (n_law, d_law), (n_Places___init__, d_Places___init__), (n_Places_asked, d_Places_asked), (n_Places_put, d_Places_put), (n_Places_told, d_Places_told), (n_Machine___init__, d_Machine___init__), (n_Machine_over, d_Machine_over), (n_Machine_block_for, d_Machine_block_for), (n_Machine_enter, d_Machine_enter), (n_Machine_leave, d_Machine_leave), (n_Machine_make, d_Machine_make), (n_Machine_set_one, d_Machine_set_one), (n_Machine_step, d_Machine_step), (n_Machine_frames, d_Machine_frames), (n_Machine_things, d_Machine_things), (n_Machine_answer, d_Machine_answer), (n_Machine_calls, d_Machine_calls), (n_Machine_looks, d_Machine_looks), (n_Machine_hits, d_Machine_hits), (n_Machine_rows_done, d_Machine_rows_done)]
def conT : List (Nat × PV) := [(n_GREATEST, (.int 1000000000000000)), (n_SIGNS, (.tup [(.tup [(.str "add"), (.str "+")]), (.tup [(.str "sub"), (.str "-")]), (.tup [(.str "mul"), (.str "*")]), (.tup [(.str "div"), (.str "/")]), (.tup [(.str "less"), (.str "<")])])), (n_MOST_PAIRS, (.int 2)), (n_MOST_WITHIN, (.int 40))]
def cdsT : List (Nat × CD) := [(n_Places, ⟨n_Places___init__, [(n_asked, n_Places_asked), (n_put, n_Places_put), (n_told, n_Places_told)], [n_pairs]⟩),
  (n_Machine, ⟨n_Machine___init__, [(n_over, n_Machine_over), (n_block_for, n_Machine_block_for), (n_enter, n_Machine_enter), (n_leave, n_Machine_leave), (n_make, n_Machine_make), (n_set_one, n_Machine_set_one), (n_step, n_Machine_step), (n_frames, n_Machine_frames), (n_things, n_Machine_things), (n_answer, n_Machine_answer), (n_calls, n_Machine_calls), (n_looks, n_Machine_looks), (n_hits, n_Machine_hits), (n_rows_done, n_Machine_rows_done)], [n_code, n_by_house, n_bound, n_keeps, n_spots, n_pile, n_made, n_counted, n_sought, n_met, n_gone, n_ended]⟩)]
def sgT : Sig := ⟨fun f => getF f fdsT, fun c => getC c cdsT, fun g => getN g conT⟩
end Py

set_option Elab.async false
set_option linter.all false
set_option maxRecDepth 100000
set_option maxHeartbeats 0
/-! The link of law 63 (printed by gen.py). -/
namespace Py
open PySem PySem.Spec PyProof.Rows L2
def topT (i : Nat) : Stmt := PySem.Challenge.pw_elderhouse_k63_whole_remembered_or_not.main.body.getD i (.Pass ⟨0, 0, 0, 0⟩)
def gfT (f : Nat) : Bool := [n_within, n_two_told, n_entered, n_two_done, n_gone_on, n_stack_behind, n_own_done, n__law_cell_at, n__law_mixed, n__law_tell_rows, n__law_program, n__law_answer, n__law_remembered, n__law_alike, n_law].contains f
def meT : Me := ⟨nmT, gfT, sgT⟩
def gs_within : Stmt := topT 2
def ge_within : He.DefD := ⟨("within", none), "within", "within", defArgs gs_within, defBody gs_within, defScope gs_within, [], []⟩
def gs_two_told : Stmt := topT 3
def ge_two_told : He.DefD := ⟨("two_told", none), "two_told", "two_told", defArgs gs_two_told, defBody gs_two_told, defScope gs_two_told, [], []⟩
def gs_entered : Stmt := topT 6
def ge_entered : He.DefD := ⟨("entered", none), "entered", "entered", defArgs gs_entered, defBody gs_entered, defScope gs_entered, [], []⟩
def gs_two_done : Stmt := topT 7
def ge_two_done : He.DefD := ⟨("two_done", none), "two_done", "two_done", defArgs gs_two_done, defBody gs_two_done, defScope gs_two_done, [], []⟩
def gs_gone_on : Stmt := topT 8
def ge_gone_on : He.DefD := ⟨("gone_on", none), "gone_on", "gone_on", defArgs gs_gone_on, defBody gs_gone_on, defScope gs_gone_on, [], []⟩
def gs_stack_behind : Stmt := topT 9
def ge_stack_behind : He.DefD := ⟨("stack_behind", none), "stack_behind", "stack_behind", defArgs gs_stack_behind, defBody gs_stack_behind, defScope gs_stack_behind, [], []⟩
def gs_own_done : Stmt := topT 10
def ge_own_done : He.DefD := ⟨("own_done", none), "own_done", "own_done", defArgs gs_own_done, defBody gs_own_done, defScope gs_own_done, [], []⟩
def gs__law_cell_at : Stmt := topT 18
def ge__law_cell_at : He.DefD := ⟨("_law_cell_at", none), "_law_cell_at", "_law_cell_at", defArgs gs__law_cell_at, defBody gs__law_cell_at, defScope gs__law_cell_at, [], []⟩
def gs__law_mixed : Stmt := topT 19
def ge__law_mixed : He.DefD := ⟨("_law_mixed", none), "_law_mixed", "_law_mixed", defArgs gs__law_mixed, defBody gs__law_mixed, defScope gs__law_mixed, [], []⟩
def gs__law_tell_rows : Stmt := topT 20
def ge__law_tell_rows : He.DefD := ⟨("_law_tell_rows", none), "_law_tell_rows", "_law_tell_rows", defArgs gs__law_tell_rows, defBody gs__law_tell_rows, defScope gs__law_tell_rows, [], []⟩
def gs__law_program : Stmt := topT 21
def ge__law_program : He.DefD := ⟨("_law_program", none), "_law_program", "_law_program", defArgs gs__law_program, defBody gs__law_program, defScope gs__law_program, [], []⟩
def gs__law_answer : Stmt := topT 22
def ge__law_answer : He.DefD := ⟨("_law_answer", none), "_law_answer", "_law_answer", defArgs gs__law_answer, defBody gs__law_answer, defScope gs__law_answer, [], []⟩
def gs__law_remembered : Stmt := topT 23
def ge__law_remembered : He.DefD := ⟨("_law_remembered", none), "_law_remembered", "_law_remembered", defArgs gs__law_remembered, defBody gs__law_remembered, defScope gs__law_remembered, [], []⟩
def gs__law_alike : Stmt := topT 24
def ge__law_alike : He.DefD := ⟨("_law_alike", none), "_law_alike", "_law_alike", defArgs gs__law_alike, defBody gs__law_alike, defScope gs__law_alike, [], []⟩
def gs_law : Stmt := topT 25
def ge_law : He.DefD := ⟨("law", none), "law", "law", defArgs gs_law, defBody gs_law, defScope gs_law, [], []⟩
def gs_Places___init__ : Stmt := inClass (topT 13) 0
def ge_Places___init__ : He.DefD := ⟨("Places", some "__init__"), "__init__", "Places.__init__", defArgs gs_Places___init__, defBody gs_Places___init__, defScope gs_Places___init__, [], []⟩
def gs_Places_asked : Stmt := inClass (topT 13) 1
def ge_Places_asked : He.DefD := ⟨("Places", some "asked"), "asked", "Places.asked", defArgs gs_Places_asked, defBody gs_Places_asked, defScope gs_Places_asked, [], []⟩
def gs_Places_put : Stmt := inClass (topT 13) 2
def ge_Places_put : He.DefD := ⟨("Places", some "put"), "put", "Places.put", defArgs gs_Places_put, defBody gs_Places_put, defScope gs_Places_put, [], []⟩
def gs_Places_told : Stmt := inClass (topT 13) 3
def ge_Places_told : He.DefD := ⟨("Places", some "told"), "told", "Places.told", defArgs gs_Places_told, defBody gs_Places_told, defScope gs_Places_told, [], []⟩
def gs_Machine___init__ : Stmt := inClass (topT 16) 0
def ge_Machine___init__ : He.DefD := ⟨("Machine", some "__init__"), "__init__", "Machine.__init__", defArgs gs_Machine___init__, defBody gs_Machine___init__, defScope gs_Machine___init__, [.int 100, .bl true], []⟩
def gs_Machine_over : Stmt := inClass (topT 16) 1
def ge_Machine_over : He.DefD := ⟨("Machine", some "over"), "over", "Machine.over", defArgs gs_Machine_over, defBody gs_Machine_over, defScope gs_Machine_over, [], []⟩
def gs_Machine_block_for : Stmt := inClass (topT 16) 2
def ge_Machine_block_for : He.DefD := ⟨("Machine", some "block_for"), "block_for", "Machine.block_for", defArgs gs_Machine_block_for, defBody gs_Machine_block_for, defScope gs_Machine_block_for, [], []⟩
def gs_Machine_enter : Stmt := inClass (topT 16) 3
def ge_Machine_enter : He.DefD := ⟨("Machine", some "enter"), "enter", "Machine.enter", defArgs gs_Machine_enter, defBody gs_Machine_enter, defScope gs_Machine_enter, [], []⟩
def gs_Machine_leave : Stmt := inClass (topT 16) 4
def ge_Machine_leave : He.DefD := ⟨("Machine", some "leave"), "leave", "Machine.leave", defArgs gs_Machine_leave, defBody gs_Machine_leave, defScope gs_Machine_leave, [], []⟩
def gs_Machine_make : Stmt := inClass (topT 16) 5
def ge_Machine_make : He.DefD := ⟨("Machine", some "make"), "make", "Machine.make", defArgs gs_Machine_make, defBody gs_Machine_make, defScope gs_Machine_make, [], []⟩
def gs_Machine_set_one : Stmt := inClass (topT 16) 6
def ge_Machine_set_one : He.DefD := ⟨("Machine", some "set_one"), "set_one", "Machine.set_one", defArgs gs_Machine_set_one, defBody gs_Machine_set_one, defScope gs_Machine_set_one, [], []⟩
def gs_Machine_step : Stmt := inClass (topT 16) 7
def ge_Machine_step : He.DefD := ⟨("Machine", some "step"), "step", "Machine.step", defArgs gs_Machine_step, defBody gs_Machine_step, defScope gs_Machine_step, [], []⟩
def gs_Machine_frames : Stmt := inClass (topT 16) 8
def ge_Machine_frames : He.DefD := ⟨("Machine", some "frames"), "frames", "Machine.frames", defArgs gs_Machine_frames, defBody gs_Machine_frames, defScope gs_Machine_frames, [], []⟩
def gs_Machine_things : Stmt := inClass (topT 16) 9
def ge_Machine_things : He.DefD := ⟨("Machine", some "things"), "things", "Machine.things", defArgs gs_Machine_things, defBody gs_Machine_things, defScope gs_Machine_things, [], []⟩
def gs_Machine_answer : Stmt := inClass (topT 16) 10
def ge_Machine_answer : He.DefD := ⟨("Machine", some "answer"), "answer", "Machine.answer", defArgs gs_Machine_answer, defBody gs_Machine_answer, defScope gs_Machine_answer, [], []⟩
def gs_Machine_calls : Stmt := inClass (topT 16) 11
def ge_Machine_calls : He.DefD := ⟨("Machine", some "calls"), "calls", "Machine.calls", defArgs gs_Machine_calls, defBody gs_Machine_calls, defScope gs_Machine_calls, [], []⟩
def gs_Machine_looks : Stmt := inClass (topT 16) 12
def ge_Machine_looks : He.DefD := ⟨("Machine", some "looks"), "looks", "Machine.looks", defArgs gs_Machine_looks, defBody gs_Machine_looks, defScope gs_Machine_looks, [], []⟩
def gs_Machine_hits : Stmt := inClass (topT 16) 13
def ge_Machine_hits : He.DefD := ⟨("Machine", some "hits"), "hits", "Machine.hits", defArgs gs_Machine_hits, defBody gs_Machine_hits, defScope gs_Machine_hits, [], []⟩
def gs_Machine_rows_done : Stmt := inClass (topT 16) 14
def ge_Machine_rows_done : He.DefD := ⟨("Machine", some "rows_done"), "rows_done", "Machine.rows_done", defArgs gs_Machine_rows_done, defBody gs_Machine_rows_done, defScope gs_Machine_rows_done, [], []⟩
def fnT : List He.DefD := [ge_within, ge_two_told, ge_entered, ge_two_done, ge_gone_on, ge_stack_behind, ge_own_done, ge__law_cell_at, ge__law_mixed, ge__law_tell_rows, ge__law_program, ge__law_answer, ge__law_remembered, ge__law_alike, ge_law, ge_Places___init__, ge_Places_asked, ge_Places_put, ge_Places_told, ge_Machine___init__, ge_Machine_over, ge_Machine_block_for, ge_Machine_enter, ge_Machine_leave, ge_Machine_make, ge_Machine_set_one, ge_Machine_step, ge_Machine_frames, ge_Machine_things, ge_Machine_answer, ge_Machine_calls, ge_Machine_looks, ge_Machine_hits, ge_Machine_rows_done]
def mAt (f : Nat) : Str × Option Str := match (f : Nat) with
  | 21 => ("Places", some "__init__")
  | 22 => ("Places", some "asked")
  | 23 => ("Places", some "put")
  | 24 => ("Places", some "told")
  | 25 => ("Machine", some "__init__")
  | 26 => ("Machine", some "over")
  | 27 => ("Machine", some "block_for")
  | 28 => ("Machine", some "enter")
  | 29 => ("Machine", some "leave")
  | 30 => ("Machine", some "make")
  | 31 => ("Machine", some "set_one")
  | 32 => ("Machine", some "step")
  | 33 => ("Machine", some "frames")
  | 34 => ("Machine", some "things")
  | 35 => ("Machine", some "answer")
  | 36 => ("Machine", some "calls")
  | 37 => ("Machine", some "looks")
  | 38 => ("Machine", some "hits")
  | 39 => ("Machine", some "rows_done")
  | _ => ("", none)
def atT (f : Nat) : Str × Option Str := if gfT f = true then (nmT f, none) else mAt f
def gfl : List Nat := [n_within, n_two_told, n_entered, n_two_done, n_gone_on, n_stack_behind, n_own_done, n__law_cell_at, n__law_mixed, n__law_tell_rows, n__law_program, n__law_answer, n__law_remembered, n__law_alike, n_law]
def exT (K : PySem.W.Frag) : Bool := chkC nmT conT K && cdsT.all fun p => chkD nmT atT p.1 p.2 K
def faT : List He.Fa := bltNames.map He.Fa.free ++ (gfl.map fun f => He.Fa.glo (nmT f))
abbrev moT (K : PySem.W.Frag) : Mo := ⟨meT, K, fun c => He.ga K (nmT c), fun f => He.fAd K (atT f)⟩
theorem gm_within : mB meT true ["number"] (defScope gs_within).names b_within (defBody gs_within) = true := by decide +kernel
theorem gc_within : FnScope ["number"] ["number"] (defScope gs_within) := C8.fnScope_by (by decide +kernel)
theorem gen_within {K : PySem.W.Frag} (c : He.SaysD faT fnT K) : Ent (moT K) n_within d_within := by
  obtain ⟨fd, F⟩ := c.def_ 0 (d := ge_within) rfl
  have F' : FunD K ge_within.name ge_within.qual ge_within.params ge_within.body ge_within.scope [] (ge_within.kws K) ((moT K).fa n_within) fd := F
  exact ⟨_, _, _, _, _, _, _, _, _, fd, F', gc_within, rfl, rfl, gm_within, dfl0 (F'.bindsN (ps := ["number"]) fun _ _ _ _ _ _ us hl => match us, hl with | [_], _ => rfl) rfl, kwd0 rfl⟩
theorem gm_two_told : mB meT true ["sign", "a", "b"] (defScope gs_two_told).names b_two_told (defBody gs_two_told) = true := by decide +kernel
theorem gc_two_told : FnScope ["sign", "a", "b"] ["sign", "a", "b"] (defScope gs_two_told) := C8.fnScope_by (by decide +kernel)
theorem gen_two_told {K : PySem.W.Frag} (c : He.SaysD faT fnT K) : Ent (moT K) n_two_told d_two_told := by
  obtain ⟨fd, F⟩ := c.def_ 1 (d := ge_two_told) rfl
  have F' : FunD K ge_two_told.name ge_two_told.qual ge_two_told.params ge_two_told.body ge_two_told.scope [] (ge_two_told.kws K) ((moT K).fa n_two_told) fd := F
  exact ⟨_, _, _, _, _, _, _, _, _, fd, F', gc_two_told, rfl, rfl, gm_two_told, dfl0 (F'.bindsN (ps := ["sign", "a", "b"]) fun _ _ _ _ _ _ us hl => match us, hl with | [_, _, _], _ => rfl) rfl, kwd0 rfl⟩
theorem gm_entered : mB meT true ["block", "number", "values", "slots"] (defScope gs_entered).names b_entered (defBody gs_entered) = true := by decide +kernel
theorem gc_entered : FnScope ["block", "number", "values", "slots"] ["block", "number", "values"] (defScope gs_entered) := C8.fnScope_by (by decide +kernel)
theorem gen_entered {K : PySem.W.Frag} (c : He.SaysD faT fnT K) : Ent (moT K) n_entered d_entered := by
  obtain ⟨fd, F⟩ := c.def_ 2 (d := ge_entered) rfl
  have F' : FunD K ge_entered.name ge_entered.qual ge_entered.params ge_entered.body ge_entered.scope [] (ge_entered.kws K) ((moT K).fa n_entered) fd := F
  exact ⟨_, _, _, _, _, _, _, _, _, fd, F', gc_entered, rfl, rfl, gm_entered, dfl0 (F'.bindsN (ps := ["block", "number", "values"]) fun _ _ _ _ _ _ us hl => match us, hl with | [_, _, _], _ => rfl) rfl, kwd0 rfl⟩
theorem gm_two_done : mB meT true ["word", "one", "other", "sign", "pair"] (defScope gs_two_done).names b_two_done (defBody gs_two_done) = true := by decide +kernel
theorem gc_two_done : FnScope ["word", "one", "other", "sign", "pair"] ["word", "one", "other"] (defScope gs_two_done) := C8.fnScope_by (by decide +kernel)
theorem gen_two_done {K : PySem.W.Frag} (c : He.SaysD faT fnT K) : Ent (moT K) n_two_done d_two_done := by
  obtain ⟨fd, F⟩ := c.def_ 3 (d := ge_two_done) rfl
  have F' : FunD K ge_two_done.name ge_two_done.qual ge_two_done.params ge_two_done.body ge_two_done.scope [] (ge_two_done.kws K) ((moT K).fa n_two_done) fd := F
  exact ⟨_, _, _, _, _, _, _, _, _, fd, F', gc_two_done, rfl, rfl, gm_two_done, dfl0 (F'.bindsN (ps := ["word", "one", "other"]) fun _ _ _ _ _ _ us hl => match us, hl with | [_, _, _], _ => rfl) rfl, kwd0 rfl⟩
theorem gm_gone_on : mB meT true ["row", "frame", "number", "at", "slots", "stack"] (defScope gs_gone_on).names b_gone_on (defBody gs_gone_on) = true := by decide +kernel
theorem gc_gone_on : FnScope ["row", "frame", "number", "at", "slots", "stack"] ["row", "frame"] (defScope gs_gone_on) := C8.fnScope_by (by decide +kernel)
theorem gen_gone_on {K : PySem.W.Frag} (c : He.SaysD faT fnT K) : Ent (moT K) n_gone_on d_gone_on := by
  obtain ⟨fd, F⟩ := c.def_ 4 (d := ge_gone_on) rfl
  have F' : FunD K ge_gone_on.name ge_gone_on.qual ge_gone_on.params ge_gone_on.body ge_gone_on.scope [] (ge_gone_on.kws K) ((moT K).fa n_gone_on) fd := F
  exact ⟨_, _, _, _, _, _, _, _, _, fd, F', gc_gone_on, rfl, rfl, gm_gone_on, dfl0 (F'.bindsN (ps := ["row", "frame"]) fun _ _ _ _ _ _ us hl => match us, hl with | [_, _], _ => rfl) rfl, kwd0 rfl⟩
theorem gm_stack_behind : mB meT true ["row", "slots", "stack", "things"] (defScope gs_stack_behind).names b_stack_behind (defBody gs_stack_behind) = true := by decide +kernel
theorem gc_stack_behind : FnScope ["row", "slots", "stack", "things"] ["row", "slots", "stack", "things"] (defScope gs_stack_behind) := C8.fnScope_by (by decide +kernel)
theorem gen_stack_behind {K : PySem.W.Frag} (c : He.SaysD faT fnT K) : Ent (moT K) n_stack_behind d_stack_behind := by
  obtain ⟨fd, F⟩ := c.def_ 5 (d := ge_stack_behind) rfl
  have F' : FunD K ge_stack_behind.name ge_stack_behind.qual ge_stack_behind.params ge_stack_behind.body ge_stack_behind.scope [] (ge_stack_behind.kws K) ((moT K).fa n_stack_behind) fd := F
  exact ⟨_, _, _, _, _, _, _, _, _, fd, F', gc_stack_behind, rfl, rfl, gm_stack_behind, dfl0 (F'.bindsN (ps := ["row", "slots", "stack", "things"]) fun _ _ _ _ _ _ us hl => match us, hl with | [_, _, _, _], _ => rfl) rfl, kwd0 rfl⟩
theorem gm_own_done : mB meT true ["row", "frame", "things", "number", "at", "slots", "stack", "word", "found", "fresh"] (defScope gs_own_done).names b_own_done (defBody gs_own_done) = true := by decide +kernel
theorem gc_own_done : FnScope ["row", "frame", "things", "number", "at", "slots", "stack", "word", "found", "fresh"] ["row", "frame", "things"] (defScope gs_own_done) := C8.fnScope_by (by decide +kernel)
theorem gen_own_done {K : PySem.W.Frag} (c : He.SaysD faT fnT K) : Ent (moT K) n_own_done d_own_done := by
  obtain ⟨fd, F⟩ := c.def_ 6 (d := ge_own_done) rfl
  have F' : FunD K ge_own_done.name ge_own_done.qual ge_own_done.params ge_own_done.body ge_own_done.scope [] (ge_own_done.kws K) ((moT K).fa n_own_done) fd := F
  exact ⟨_, _, _, _, _, _, _, _, _, fd, F', gc_own_done, rfl, rfl, gm_own_done, dfl0 (F'.bindsN (ps := ["row", "frame", "things"]) fun _ _ _ _ _ _ us hl => match us, hl with | [_, _, _], _ => rfl) rfl, kwd0 rfl⟩
theorem gm__law_cell_at : mB meT true ["_law_script", "_law_k"] (defScope gs__law_cell_at).names b__law_cell_at (defBody gs__law_cell_at) = true := by decide +kernel
theorem gc__law_cell_at : FnScope ["_law_script", "_law_k"] ["_law_script", "_law_k"] (defScope gs__law_cell_at) := C8.fnScope_by (by decide +kernel)
theorem gen__law_cell_at {K : PySem.W.Frag} (c : He.SaysD faT fnT K) : Ent (moT K) n__law_cell_at d__law_cell_at := by
  obtain ⟨fd, F⟩ := c.def_ 7 (d := ge__law_cell_at) rfl
  have F' : FunD K ge__law_cell_at.name ge__law_cell_at.qual ge__law_cell_at.params ge__law_cell_at.body ge__law_cell_at.scope [] (ge__law_cell_at.kws K) ((moT K).fa n__law_cell_at) fd := F
  exact ⟨_, _, _, _, _, _, _, _, _, fd, F', gc__law_cell_at, rfl, rfl, gm__law_cell_at, dfl0 (F'.bindsN (ps := ["_law_script", "_law_k"]) fun _ _ _ _ _ _ us hl => match us, hl with | [_, _], _ => rfl) rfl, kwd0 rfl⟩
theorem gm__law_mixed : mB meT true ["_law_cell", "_law_k", "_law_number"] (defScope gs__law_mixed).names b__law_mixed (defBody gs__law_mixed) = true := by decide +kernel
theorem gc__law_mixed : FnScope ["_law_cell", "_law_k", "_law_number"] ["_law_cell", "_law_k"] (defScope gs__law_mixed) := C8.fnScope_by (by decide +kernel)
theorem gen__law_mixed {K : PySem.W.Frag} (c : He.SaysD faT fnT K) : Ent (moT K) n__law_mixed d__law_mixed := by
  obtain ⟨fd, F⟩ := c.def_ 8 (d := ge__law_mixed) rfl
  have F' : FunD K ge__law_mixed.name ge__law_mixed.qual ge__law_mixed.params ge__law_mixed.body ge__law_mixed.scope [] (ge__law_mixed.kws K) ((moT K).fa n__law_mixed) fd := F
  exact ⟨_, _, _, _, _, _, _, _, _, fd, F', gc__law_mixed, rfl, rfl, gm__law_mixed, dfl0 (F'.bindsN (ps := ["_law_cell", "_law_k"]) fun _ _ _ _ _ _ us hl => match us, hl with | [_, _], _ => rfl) rfl, kwd0 rfl⟩
theorem gm__law_tell_rows : mB meT true ["_law_way"] (defScope gs__law_tell_rows).names b__law_tell_rows (defBody gs__law_tell_rows) = true := by decide +kernel
theorem gc__law_tell_rows : FnScope ["_law_way"] ["_law_way"] (defScope gs__law_tell_rows) := C8.fnScope_by (by decide +kernel)
theorem gen__law_tell_rows {K : PySem.W.Frag} (c : He.SaysD faT fnT K) : Ent (moT K) n__law_tell_rows d__law_tell_rows := by
  obtain ⟨fd, F⟩ := c.def_ 9 (d := ge__law_tell_rows) rfl
  have F' : FunD K ge__law_tell_rows.name ge__law_tell_rows.qual ge__law_tell_rows.params ge__law_tell_rows.body ge__law_tell_rows.scope [] (ge__law_tell_rows.kws K) ((moT K).fa n__law_tell_rows) fd := F
  exact ⟨_, _, _, _, _, _, _, _, _, fd, F', gc__law_tell_rows, rfl, rfl, gm__law_tell_rows, dfl0 (F'.bindsN (ps := ["_law_way"]) fun _ _ _ _ _ _ us hl => match us, hl with | [_], _ => rfl) rfl, kwd0 rfl⟩
theorem gm__law_program : mB meT true ["_law_script", "_law_one", "_law_many", "_law_ways", "_law_go", "_law_blocks", "_law_laid", "_law_house", "_law_homes", "_law_values", "_law_count", "_law_main", "_law_k", "_law_way", "_law_row"] (defScope gs__law_program).names b__law_program (defBody gs__law_program) = true := by decide +kernel
theorem gc__law_program : FnScope ["_law_script", "_law_one", "_law_many", "_law_ways", "_law_go", "_law_blocks", "_law_laid", "_law_house", "_law_homes", "_law_values", "_law_count", "_law_main", "_law_k", "_law_way", "_law_row"] ["_law_script"] (defScope gs__law_program) := C8.fnScope_by (by decide +kernel)
theorem gen__law_program {K : PySem.W.Frag} (c : He.SaysD faT fnT K) : Ent (moT K) n__law_program d__law_program := by
  obtain ⟨fd, F⟩ := c.def_ 10 (d := ge__law_program) rfl
  have F' : FunD K ge__law_program.name ge__law_program.qual ge__law_program.params ge__law_program.body ge__law_program.scope [] (ge__law_program.kws K) ((moT K).fa n__law_program) fd := F
  exact ⟨_, _, _, _, _, _, _, _, _, fd, F', gc__law_program, rfl, rfl, gm__law_program, dfl0 (F'.bindsN (ps := ["_law_script"]) fun _ _ _ _ _ _ us hl => match us, hl with | [_], _ => rfl) rfl, kwd0 rfl⟩
theorem gm__law_answer : mB meT true ["_law_program_here", "_law_most", "_law_ways", "_law_homes", "_law_values", "_law_count", "_law_last", "_law_sites", "_law_fields", "_law_total", "_law_calls", "_law_turn", "_law_level", "_law_number", "_law_site", "_law_house", "_law_way", "_law_told"] (defScope gs__law_answer).names b__law_answer (defBody gs__law_answer) = true := by decide +kernel
theorem gc__law_answer : FnScope ["_law_program_here", "_law_most", "_law_ways", "_law_homes", "_law_values", "_law_count", "_law_last", "_law_sites", "_law_fields", "_law_total", "_law_calls", "_law_turn", "_law_level", "_law_number", "_law_site", "_law_house", "_law_way", "_law_told"] ["_law_program_here", "_law_most"] (defScope gs__law_answer) := C8.fnScope_by (by decide +kernel)
theorem gen__law_answer {K : PySem.W.Frag} (c : He.SaysD faT fnT K) : Ent (moT K) n__law_answer d__law_answer := by
  obtain ⟨fd, F⟩ := c.def_ 11 (d := ge__law_answer) rfl
  have F' : FunD K ge__law_answer.name ge__law_answer.qual ge__law_answer.params ge__law_answer.body ge__law_answer.scope [] (ge__law_answer.kws K) ((moT K).fa n__law_answer) fd := F
  exact ⟨_, _, _, _, _, _, _, _, _, fd, F', gc__law_answer, rfl, rfl, gm__law_answer, dfl0 (F'.bindsN (ps := ["_law_program_here", "_law_most"]) fun _ _ _ _ _ _ us hl => match us, hl with | [_, _], _ => rfl) rfl, kwd0 rfl⟩
theorem gm__law_remembered : mB meT true ["_law_sites", "_law_known", "_law_hits", "_law_site", "_law_house", "_law_row", "_law_one"] (defScope gs__law_remembered).names b__law_remembered (defBody gs__law_remembered) = true := by decide +kernel
theorem gc__law_remembered : FnScope ["_law_sites", "_law_known", "_law_hits", "_law_site", "_law_house", "_law_row", "_law_one"] ["_law_sites"] (defScope gs__law_remembered) := C8.fnScope_by (by decide +kernel)
theorem gen__law_remembered {K : PySem.W.Frag} (c : He.SaysD faT fnT K) : Ent (moT K) n__law_remembered d__law_remembered := by
  obtain ⟨fd, F⟩ := c.def_ 12 (d := ge__law_remembered) rfl
  have F' : FunD K ge__law_remembered.name ge__law_remembered.qual ge__law_remembered.params ge__law_remembered.body ge__law_remembered.scope [] (ge__law_remembered.kws K) ((moT K).fa n__law_remembered) fd := F
  exact ⟨_, _, _, _, _, _, _, _, _, fd, F', gc__law_remembered, rfl, rfl, gm__law_remembered, dfl0 (F'.bindsN (ps := ["_law_sites"]) fun _ _ _ _ _ _ us hl => match us, hl with | [_], _ => rfl) rfl, kwd0 rfl⟩
theorem gm__law_alike : mB meT true ["_law_one", "_law_other", "_law_bits", "_law_pairs", "_law_pair"] (defScope gs__law_alike).names b__law_alike (defBody gs__law_alike) = true := by decide +kernel
theorem gc__law_alike : FnScope ["_law_one", "_law_other", "_law_bits", "_law_pairs", "_law_pair"] ["_law_one", "_law_other", "_law_bits"] (defScope gs__law_alike) := C8.fnScope_by (by decide +kernel)
theorem gen__law_alike {K : PySem.W.Frag} (c : He.SaysD faT fnT K) : Ent (moT K) n__law_alike d__law_alike := by
  obtain ⟨fd, F⟩ := c.def_ 13 (d := ge__law_alike) rfl
  have F' : FunD K ge__law_alike.name ge__law_alike.qual ge__law_alike.params ge__law_alike.body ge__law_alike.scope [] (ge__law_alike.kws K) ((moT K).fa n__law_alike) fd := F
  exact ⟨_, _, _, _, _, _, _, _, _, fd, F', gc__law_alike, rfl, rfl, gm__law_alike, dfl0 (F'.bindsN (ps := ["_law_one", "_law_other", "_law_bits"]) fun _ _ _ _ _ _ us hl => match us, hl with | [_, _, _], _ => rfl) rfl, kwd0 rfl⟩
theorem gm_law : mB meT true ["_law_script", "_law_program_here", "_law_most", "_law_one", "_law_other", "_law_is_long", "_law_turn", "_law_ended", "_law_calls", "_law_sites", "_law_row"] (defScope gs_law).names b_law (defBody gs_law) = true := by decide +kernel
theorem gc_law : FnScope ["_law_script", "_law_program_here", "_law_most", "_law_one", "_law_other", "_law_is_long", "_law_turn", "_law_ended", "_law_calls", "_law_sites", "_law_row"] ["_law_script"] (defScope gs_law) := C8.fnScope_by (by decide +kernel)
theorem gen_law {K : PySem.W.Frag} (c : He.SaysD faT fnT K) : Ent (moT K) n_law d_law := by
  obtain ⟨fd, F⟩ := c.def_ 14 (d := ge_law) rfl
  have F' : FunD K ge_law.name ge_law.qual ge_law.params ge_law.body ge_law.scope [] (ge_law.kws K) ((moT K).fa n_law) fd := F
  exact ⟨_, _, _, _, _, _, _, _, _, fd, F', gc_law, rfl, rfl, gm_law, dfl0 (F'.bindsN (ps := ["_law_script"]) fun _ _ _ _ _ _ us hl => match us, hl with | [_], _ => rfl) rfl, kwd0 rfl⟩
theorem gm_Places___init__ : mB meT true ["self"] (defScope gs_Places___init__).names b_Places___init__ (defBody gs_Places___init__) = true := by decide +kernel
theorem gc_Places___init__ : FnScope ["self"] ["self"] (defScope gs_Places___init__) := C8.fnScope_by (by decide +kernel)
theorem gen_Places___init__ {K : PySem.W.Frag} (c : He.SaysD faT fnT K) : Ent (moT K) n_Places___init__ d_Places___init__ := by
  obtain ⟨fd, F⟩ := c.def_ 15 (d := ge_Places___init__) rfl
  have F' : FunD K ge_Places___init__.name ge_Places___init__.qual ge_Places___init__.params ge_Places___init__.body ge_Places___init__.scope [] (ge_Places___init__.kws K) ((moT K).fa n_Places___init__) fd := F
  exact ⟨_, _, _, _, _, _, _, _, _, fd, F', gc_Places___init__, rfl, rfl, gm_Places___init__, dfl0 (F'.bindsN (ps := ["self"]) fun _ _ _ _ _ _ us hl => match us, hl with | [_], _ => rfl) rfl, kwd0 rfl⟩
theorem gm_Places_asked : mB meT true ["self", "site", "house", "row", "pair", "other"] (defScope gs_Places_asked).names b_Places_asked (defBody gs_Places_asked) = true := by decide +kernel
theorem gc_Places_asked : FnScope ["self", "site", "house", "row", "pair", "other"] ["self", "site", "house"] (defScope gs_Places_asked) := C8.fnScope_by (by decide +kernel)
theorem gen_Places_asked {K : PySem.W.Frag} (c : He.SaysD faT fnT K) : Ent (moT K) n_Places_asked d_Places_asked := by
  obtain ⟨fd, F⟩ := c.def_ 16 (d := ge_Places_asked) rfl
  have F' : FunD K ge_Places_asked.name ge_Places_asked.qual ge_Places_asked.params ge_Places_asked.body ge_Places_asked.scope [] (ge_Places_asked.kws K) ((moT K).fa n_Places_asked) fd := F
  exact ⟨_, _, _, _, _, _, _, _, _, fd, F', gc_Places_asked, rfl, rfl, gm_Places_asked, dfl0 (F'.bindsN (ps := ["self", "site", "house"]) fun _ _ _ _ _ _ us hl => match us, hl with | [_, _, _], _ => rfl) rfl, kwd0 rfl⟩
theorem gm_Places_put : mB meT true ["self", "site", "house", "block"] (defScope gs_Places_put).names b_Places_put (defBody gs_Places_put) = true := by decide +kernel
theorem gc_Places_put : FnScope ["self", "site", "house", "block"] ["self", "site", "house", "block"] (defScope gs_Places_put) := C8.fnScope_by (by decide +kernel)
theorem gen_Places_put {K : PySem.W.Frag} (c : He.SaysD faT fnT K) : Ent (moT K) n_Places_put d_Places_put := by
  obtain ⟨fd, F⟩ := c.def_ 17 (d := ge_Places_put) rfl
  have F' : FunD K ge_Places_put.name ge_Places_put.qual ge_Places_put.params ge_Places_put.body ge_Places_put.scope [] (ge_Places_put.kws K) ((moT K).fa n_Places_put) fd := F
  exact ⟨_, _, _, _, _, _, _, _, _, fd, F', gc_Places_put, rfl, rfl, gm_Places_put, dfl0 (F'.bindsN (ps := ["self", "site", "house", "block"]) fun _ _ _ _ _ _ us hl => match us, hl with | [_, _, _, _], _ => rfl) rfl, kwd0 rfl⟩
theorem gm_Places_told : mB meT true ["self", "site"] (defScope gs_Places_told).names b_Places_told (defBody gs_Places_told) = true := by decide +kernel
theorem gc_Places_told : FnScope ["self", "site"] ["self", "site"] (defScope gs_Places_told) := C8.fnScope_by (by decide +kernel)
theorem gen_Places_told {K : PySem.W.Frag} (c : He.SaysD faT fnT K) : Ent (moT K) n_Places_told d_Places_told := by
  obtain ⟨fd, F⟩ := c.def_ 18 (d := ge_Places_told) rfl
  have F' : FunD K ge_Places_told.name ge_Places_told.qual ge_Places_told.params ge_Places_told.body ge_Places_told.scope [] (ge_Places_told.kws K) ((moT K).fa n_Places_told) fd := F
  exact ⟨_, _, _, _, _, _, _, _, _, fd, F', gc_Places_told, rfl, rfl, gm_Places_told, dfl0 (F'.bindsN (ps := ["self", "site"]) fun _ _ _ _ _ _ us hl => match us, hl with | [_, _], _ => rfl) rfl, kwd0 rfl⟩
theorem gm_Machine___init__ : mB meT true ["self", "blocks", "tables", "numbers", "most", "remembers", "table"] (defScope gs_Machine___init__).names b_Machine___init__ (defBody gs_Machine___init__) = true := by decide +kernel
theorem gc_Machine___init__ : FnScope ["self", "blocks", "tables", "numbers", "most", "remembers", "table"] ["self", "blocks", "tables", "numbers", "most", "remembers"] (defScope gs_Machine___init__) := C8.fnScope_by (by decide +kernel)
theorem gen_Machine___init__ {K : PySem.W.Frag} (c : He.SaysD faT fnT K) : Ent (moT K) n_Machine___init__ d_Machine___init__ := by
  obtain ⟨fd, F⟩ := c.def_ 19 (d := ge_Machine___init__) rfl
  have F' : FunD K ge_Machine___init__.name ge_Machine___init__.qual ge_Machine___init__.params ge_Machine___init__.body ge_Machine___init__.scope [V.int 100, V.bl true] (ge_Machine___init__.kws K) ((moT K).fa n_Machine___init__) fd := F
  refine ⟨_, _, _, _, _, _, _, _, _, fd, F', gc_Machine___init__, rfl, rfl, gm_Machine___init__, ?_, ?_⟩
  · intro n hn hl
    have hn : n ≤ 6 := hn
    unfold fill at hl
    rw [List.length_append, List.length_replicate, List.length_drop] at hl
    have hl : n + (2 - (2 - (6 - n))) = 6 := hl
    have hc : n = 4 ∨ n = 5 ∨ n = 6 := by omega
    rcases hc with rfl | rfl | rfl
    · obtain ⟨ds, r, b⟩ := FunD.binds1 (ps := ["self", "blocks", "tables", "numbers", "most", "remembers"]) F' 4 0 (by simp) rfl (fun T kV doc pm an cdv ct us its h1 h2 => match us, its, h1, h2 with | [_, _, _, _], [_, _], _, _ => ⟨_, rfl, rfl⟩)
      exact ⟨_, ds, r, b, fun H m => ⟨_, _, rfl, rfl, ⟨_, _, rfl, rfl, rfl⟩⟩⟩
    · obtain ⟨ds, r, b⟩ := FunD.binds1 (ps := ["self", "blocks", "tables", "numbers", "most", "remembers"]) F' 5 1 (by simp) rfl (fun T kV doc pm an cdv ct us its h1 h2 => match us, its, h1, h2 with | [_, _, _, _, _], [_, _], _, _ => ⟨_, rfl, rfl⟩)
      exact ⟨_, ds, r, b, fun H m => ⟨_, _, rfl, rfl, rfl⟩⟩
    · obtain ⟨ds, r, b⟩ := FunD.binds1 (ps := ["self", "blocks", "tables", "numbers", "most", "remembers"]) F' 6 2 (by simp) rfl (fun T kV doc pm an cdv ct us its h1 h2 => match us, its, h1, h2 with | [_, _, _, _, _, _], [_, _], _, _ => ⟨_, rfl, rfl⟩)
      exact ⟨_, ds, r, b, fun H m => rfl⟩
  · exact kwd0 rfl
theorem gm_Machine_over : mB meT true ["self", "found"] (defScope gs_Machine_over).names b_Machine_over (defBody gs_Machine_over) = true := by decide +kernel
theorem gc_Machine_over : FnScope ["self", "found"] ["self", "found"] (defScope gs_Machine_over) := C8.fnScope_by (by decide +kernel)
theorem gen_Machine_over {K : PySem.W.Frag} (c : He.SaysD faT fnT K) : Ent (moT K) n_Machine_over d_Machine_over := by
  obtain ⟨fd, F⟩ := c.def_ 20 (d := ge_Machine_over) rfl
  have F' : FunD K ge_Machine_over.name ge_Machine_over.qual ge_Machine_over.params ge_Machine_over.body ge_Machine_over.scope [] (ge_Machine_over.kws K) ((moT K).fa n_Machine_over) fd := F
  exact ⟨_, _, _, _, _, _, _, _, _, fd, F', gc_Machine_over, rfl, rfl, gm_Machine_over, dfl0 (F'.bindsN (ps := ["self", "found"]) fun _ _ _ _ _ _ us hl => match us, hl with | [_, _], _ => rfl) rfl, kwd0 rfl⟩
theorem gm_Machine_block_for : mB meT true ["self", "site", "word", "thing", "house", "block"] (defScope gs_Machine_block_for).names b_Machine_block_for (defBody gs_Machine_block_for) = true := by decide +kernel
theorem gc_Machine_block_for : FnScope ["self", "site", "word", "thing", "house", "block"] ["self", "site", "word", "thing"] (defScope gs_Machine_block_for) := C8.fnScope_by (by decide +kernel)
theorem gen_Machine_block_for {K : PySem.W.Frag} (c : He.SaysD faT fnT K) : Ent (moT K) n_Machine_block_for d_Machine_block_for := by
  obtain ⟨fd, F⟩ := c.def_ 21 (d := ge_Machine_block_for) rfl
  have F' : FunD K ge_Machine_block_for.name ge_Machine_block_for.qual ge_Machine_block_for.params ge_Machine_block_for.body ge_Machine_block_for.scope [] (ge_Machine_block_for.kws K) ((moT K).fa n_Machine_block_for) fd := F
  exact ⟨_, _, _, _, _, _, _, _, _, fd, F', gc_Machine_block_for, rfl, rfl, gm_Machine_block_for, dfl0 (F'.bindsN (ps := ["self", "site", "word", "thing"]) fun _ _ _ _ _ _ us hl => match us, hl with | [_, _, _, _], _ => rfl) rfl, kwd0 rfl⟩
theorem gm_Machine_enter : mB meT true ["self", "row", "frame", "number", "at", "slots", "stack", "rest", "values", "block"] (defScope gs_Machine_enter).names b_Machine_enter (defBody gs_Machine_enter) = true := by decide +kernel
theorem gc_Machine_enter : FnScope ["self", "row", "frame", "number", "at", "slots", "stack", "rest", "values", "block"] ["self", "row", "frame"] (defScope gs_Machine_enter) := C8.fnScope_by (by decide +kernel)
theorem gen_Machine_enter {K : PySem.W.Frag} (c : He.SaysD faT fnT K) : Ent (moT K) n_Machine_enter d_Machine_enter := by
  obtain ⟨fd, F⟩ := c.def_ 22 (d := ge_Machine_enter) rfl
  have F' : FunD K ge_Machine_enter.name ge_Machine_enter.qual ge_Machine_enter.params ge_Machine_enter.body ge_Machine_enter.scope [] (ge_Machine_enter.kws K) ((moT K).fa n_Machine_enter) fd := F
  exact ⟨_, _, _, _, _, _, _, _, _, fd, F', gc_Machine_enter, rfl, rfl, gm_Machine_enter, dfl0 (F'.bindsN (ps := ["self", "row", "frame"]) fun _ _ _ _ _ _ us hl => match us, hl with | [_, _, _], _ => rfl) rfl, kwd0 rfl⟩
theorem gm_Machine_leave : mB meT true ["self", "value", "number", "at", "slots", "stack"] (defScope gs_Machine_leave).names b_Machine_leave (defBody gs_Machine_leave) = true := by decide +kernel
theorem gc_Machine_leave : FnScope ["self", "value", "number", "at", "slots", "stack"] ["self"] (defScope gs_Machine_leave) := C8.fnScope_by (by decide +kernel)
theorem gen_Machine_leave {K : PySem.W.Frag} (c : He.SaysD faT fnT K) : Ent (moT K) n_Machine_leave d_Machine_leave := by
  obtain ⟨fd, F⟩ := c.def_ 23 (d := ge_Machine_leave) rfl
  have F' : FunD K ge_Machine_leave.name ge_Machine_leave.qual ge_Machine_leave.params ge_Machine_leave.body ge_Machine_leave.scope [] (ge_Machine_leave.kws K) ((moT K).fa n_Machine_leave) fd := F
  exact ⟨_, _, _, _, _, _, _, _, _, fd, F', gc_Machine_leave, rfl, rfl, gm_Machine_leave, dfl0 (F'.bindsN (ps := ["self"]) fun _ _ _ _ _ _ us hl => match us, hl with | [_], _ => rfl) rfl, kwd0 rfl⟩
theorem gm_Machine_make : mB meT true ["self", "row", "frame", "number", "at", "slots", "stack", "rest"] (defScope gs_Machine_make).names b_Machine_make (defBody gs_Machine_make) = true := by decide +kernel
theorem gc_Machine_make : FnScope ["self", "row", "frame", "number", "at", "slots", "stack", "rest"] ["self", "row", "frame"] (defScope gs_Machine_make) := C8.fnScope_by (by decide +kernel)
theorem gen_Machine_make {K : PySem.W.Frag} (c : He.SaysD faT fnT K) : Ent (moT K) n_Machine_make d_Machine_make := by
  obtain ⟨fd, F⟩ := c.def_ 24 (d := ge_Machine_make) rfl
  have F' : FunD K ge_Machine_make.name ge_Machine_make.qual ge_Machine_make.params ge_Machine_make.body ge_Machine_make.scope [] (ge_Machine_make.kws K) ((moT K).fa n_Machine_make) fd := F
  exact ⟨_, _, _, _, _, _, _, _, _, fd, F', gc_Machine_make, rfl, rfl, gm_Machine_make, dfl0 (F'.bindsN (ps := ["self", "row", "frame"]) fun _ _ _ _ _ _ us hl => match us, hl with | [_, _, _], _ => rfl) rfl, kwd0 rfl⟩
theorem gm_Machine_set_one : mB meT true ["self", "row", "frame", "number", "at", "slots", "stack", "which", "house", "values"] (defScope gs_Machine_set_one).names b_Machine_set_one (defBody gs_Machine_set_one) = true := by decide +kernel
theorem gc_Machine_set_one : FnScope ["self", "row", "frame", "number", "at", "slots", "stack", "which", "house", "values"] ["self", "row", "frame"] (defScope gs_Machine_set_one) := C8.fnScope_by (by decide +kernel)
theorem gen_Machine_set_one {K : PySem.W.Frag} (c : He.SaysD faT fnT K) : Ent (moT K) n_Machine_set_one d_Machine_set_one := by
  obtain ⟨fd, F⟩ := c.def_ 25 (d := ge_Machine_set_one) rfl
  have F' : FunD K ge_Machine_set_one.name ge_Machine_set_one.qual ge_Machine_set_one.params ge_Machine_set_one.body ge_Machine_set_one.scope [] (ge_Machine_set_one.kws K) ((moT K).fa n_Machine_set_one) fd := F
  exact ⟨_, _, _, _, _, _, _, _, _, fd, F', gc_Machine_set_one, rfl, rfl, gm_Machine_set_one, dfl0 (F'.bindsN (ps := ["self", "row", "frame"]) fun _ _ _ _ _ _ us hl => match us, hl with | [_, _, _], _ => rfl) rfl, kwd0 rfl⟩
theorem gm_Machine_step : mB meT true ["self", "frame", "row", "fresh", "refused"] (defScope gs_Machine_step).names b_Machine_step (defBody gs_Machine_step) = true := by decide +kernel
theorem gc_Machine_step : FnScope ["self", "frame", "row", "fresh", "refused"] ["self"] (defScope gs_Machine_step) := C8.fnScope_by (by decide +kernel)
theorem gen_Machine_step {K : PySem.W.Frag} (c : He.SaysD faT fnT K) : Ent (moT K) n_Machine_step d_Machine_step := by
  obtain ⟨fd, F⟩ := c.def_ 26 (d := ge_Machine_step) rfl
  have F' : FunD K ge_Machine_step.name ge_Machine_step.qual ge_Machine_step.params ge_Machine_step.body ge_Machine_step.scope [] (ge_Machine_step.kws K) ((moT K).fa n_Machine_step) fd := F
  exact ⟨_, _, _, _, _, _, _, _, _, fd, F', gc_Machine_step, rfl, rfl, gm_Machine_step, dfl0 (F'.bindsN (ps := ["self"]) fun _ _ _ _ _ _ us hl => match us, hl with | [_], _ => rfl) rfl, kwd0 rfl⟩
theorem gm_Machine_frames : mB meT true ["self"] (defScope gs_Machine_frames).names b_Machine_frames (defBody gs_Machine_frames) = true := by decide +kernel
theorem gc_Machine_frames : FnScope ["self"] ["self"] (defScope gs_Machine_frames) := C8.fnScope_by (by decide +kernel)
theorem gen_Machine_frames {K : PySem.W.Frag} (c : He.SaysD faT fnT K) : Ent (moT K) n_Machine_frames d_Machine_frames := by
  obtain ⟨fd, F⟩ := c.def_ 27 (d := ge_Machine_frames) rfl
  have F' : FunD K ge_Machine_frames.name ge_Machine_frames.qual ge_Machine_frames.params ge_Machine_frames.body ge_Machine_frames.scope [] (ge_Machine_frames.kws K) ((moT K).fa n_Machine_frames) fd := F
  exact ⟨_, _, _, _, _, _, _, _, _, fd, F', gc_Machine_frames, rfl, rfl, gm_Machine_frames, dfl0 (F'.bindsN (ps := ["self"]) fun _ _ _ _ _ _ us hl => match us, hl with | [_], _ => rfl) rfl, kwd0 rfl⟩
theorem gm_Machine_things : mB meT true ["self"] (defScope gs_Machine_things).names b_Machine_things (defBody gs_Machine_things) = true := by decide +kernel
theorem gc_Machine_things : FnScope ["self"] ["self"] (defScope gs_Machine_things) := C8.fnScope_by (by decide +kernel)
theorem gen_Machine_things {K : PySem.W.Frag} (c : He.SaysD faT fnT K) : Ent (moT K) n_Machine_things d_Machine_things := by
  obtain ⟨fd, F⟩ := c.def_ 28 (d := ge_Machine_things) rfl
  have F' : FunD K ge_Machine_things.name ge_Machine_things.qual ge_Machine_things.params ge_Machine_things.body ge_Machine_things.scope [] (ge_Machine_things.kws K) ((moT K).fa n_Machine_things) fd := F
  exact ⟨_, _, _, _, _, _, _, _, _, fd, F', gc_Machine_things, rfl, rfl, gm_Machine_things, dfl0 (F'.bindsN (ps := ["self"]) fun _ _ _ _ _ _ us hl => match us, hl with | [_], _ => rfl) rfl, kwd0 rfl⟩
theorem gm_Machine_answer : mB meT true ["self"] (defScope gs_Machine_answer).names b_Machine_answer (defBody gs_Machine_answer) = true := by decide +kernel
theorem gc_Machine_answer : FnScope ["self"] ["self"] (defScope gs_Machine_answer) := C8.fnScope_by (by decide +kernel)
theorem gen_Machine_answer {K : PySem.W.Frag} (c : He.SaysD faT fnT K) : Ent (moT K) n_Machine_answer d_Machine_answer := by
  obtain ⟨fd, F⟩ := c.def_ 29 (d := ge_Machine_answer) rfl
  have F' : FunD K ge_Machine_answer.name ge_Machine_answer.qual ge_Machine_answer.params ge_Machine_answer.body ge_Machine_answer.scope [] (ge_Machine_answer.kws K) ((moT K).fa n_Machine_answer) fd := F
  exact ⟨_, _, _, _, _, _, _, _, _, fd, F', gc_Machine_answer, rfl, rfl, gm_Machine_answer, dfl0 (F'.bindsN (ps := ["self"]) fun _ _ _ _ _ _ us hl => match us, hl with | [_], _ => rfl) rfl, kwd0 rfl⟩
theorem gm_Machine_calls : mB meT true ["self"] (defScope gs_Machine_calls).names b_Machine_calls (defBody gs_Machine_calls) = true := by decide +kernel
theorem gc_Machine_calls : FnScope ["self"] ["self"] (defScope gs_Machine_calls) := C8.fnScope_by (by decide +kernel)
theorem gen_Machine_calls {K : PySem.W.Frag} (c : He.SaysD faT fnT K) : Ent (moT K) n_Machine_calls d_Machine_calls := by
  obtain ⟨fd, F⟩ := c.def_ 30 (d := ge_Machine_calls) rfl
  have F' : FunD K ge_Machine_calls.name ge_Machine_calls.qual ge_Machine_calls.params ge_Machine_calls.body ge_Machine_calls.scope [] (ge_Machine_calls.kws K) ((moT K).fa n_Machine_calls) fd := F
  exact ⟨_, _, _, _, _, _, _, _, _, fd, F', gc_Machine_calls, rfl, rfl, gm_Machine_calls, dfl0 (F'.bindsN (ps := ["self"]) fun _ _ _ _ _ _ us hl => match us, hl with | [_], _ => rfl) rfl, kwd0 rfl⟩
theorem gm_Machine_looks : mB meT true ["self"] (defScope gs_Machine_looks).names b_Machine_looks (defBody gs_Machine_looks) = true := by decide +kernel
theorem gc_Machine_looks : FnScope ["self"] ["self"] (defScope gs_Machine_looks) := C8.fnScope_by (by decide +kernel)
theorem gen_Machine_looks {K : PySem.W.Frag} (c : He.SaysD faT fnT K) : Ent (moT K) n_Machine_looks d_Machine_looks := by
  obtain ⟨fd, F⟩ := c.def_ 31 (d := ge_Machine_looks) rfl
  have F' : FunD K ge_Machine_looks.name ge_Machine_looks.qual ge_Machine_looks.params ge_Machine_looks.body ge_Machine_looks.scope [] (ge_Machine_looks.kws K) ((moT K).fa n_Machine_looks) fd := F
  exact ⟨_, _, _, _, _, _, _, _, _, fd, F', gc_Machine_looks, rfl, rfl, gm_Machine_looks, dfl0 (F'.bindsN (ps := ["self"]) fun _ _ _ _ _ _ us hl => match us, hl with | [_], _ => rfl) rfl, kwd0 rfl⟩
theorem gm_Machine_hits : mB meT true ["self"] (defScope gs_Machine_hits).names b_Machine_hits (defBody gs_Machine_hits) = true := by decide +kernel
theorem gc_Machine_hits : FnScope ["self"] ["self"] (defScope gs_Machine_hits) := C8.fnScope_by (by decide +kernel)
theorem gen_Machine_hits {K : PySem.W.Frag} (c : He.SaysD faT fnT K) : Ent (moT K) n_Machine_hits d_Machine_hits := by
  obtain ⟨fd, F⟩ := c.def_ 32 (d := ge_Machine_hits) rfl
  have F' : FunD K ge_Machine_hits.name ge_Machine_hits.qual ge_Machine_hits.params ge_Machine_hits.body ge_Machine_hits.scope [] (ge_Machine_hits.kws K) ((moT K).fa n_Machine_hits) fd := F
  exact ⟨_, _, _, _, _, _, _, _, _, fd, F', gc_Machine_hits, rfl, rfl, gm_Machine_hits, dfl0 (F'.bindsN (ps := ["self"]) fun _ _ _ _ _ _ us hl => match us, hl with | [_], _ => rfl) rfl, kwd0 rfl⟩
theorem gm_Machine_rows_done : mB meT true ["self"] (defScope gs_Machine_rows_done).names b_Machine_rows_done (defBody gs_Machine_rows_done) = true := by decide +kernel
theorem gc_Machine_rows_done : FnScope ["self"] ["self"] (defScope gs_Machine_rows_done) := C8.fnScope_by (by decide +kernel)
theorem gen_Machine_rows_done {K : PySem.W.Frag} (c : He.SaysD faT fnT K) : Ent (moT K) n_Machine_rows_done d_Machine_rows_done := by
  obtain ⟨fd, F⟩ := c.def_ 33 (d := ge_Machine_rows_done) rfl
  have F' : FunD K ge_Machine_rows_done.name ge_Machine_rows_done.qual ge_Machine_rows_done.params ge_Machine_rows_done.body ge_Machine_rows_done.scope [] (ge_Machine_rows_done.kws K) ((moT K).fa n_Machine_rows_done) fd := F
  exact ⟨_, _, _, _, _, _, _, _, _, fd, F', gc_Machine_rows_done, rfl, rfl, gm_Machine_rows_done, dfl0 (F'.bindsN (ps := ["self"]) fun _ _ _ _ _ _ us hl => match us, hl with | [_], _ => rfl) rfl, kwd0 rfl⟩
theorem hallT {K : PySem.W.Frag} (c : He.SaysD faT fnT K) : ∀ f d, sgT.fn f = some d → Ent (moT K) f d := fun f d h => getF_all (P := fun f d => Ent (moT K) f d) (l := fdsT) ⟨gen_within c, gen_two_told c, gen_entered c, gen_two_done c, gen_gone_on c, gen_stack_behind c, gen_own_done c, gen__law_cell_at c, gen__law_mixed c, gen__law_tell_rows c, gen__law_program c, gen__law_answer c, gen__law_remembered c, gen__law_alike c, gen_law c, gen_Places___init__ c, gen_Places_asked c, gen_Places_put c, gen_Places_told c, gen_Machine___init__ c, gen_Machine_over c, gen_Machine_block_for c, gen_Machine_enter c, gen_Machine_leave c, gen_Machine_make c, gen_Machine_set_one c, gen_Machine_step c, gen_Machine_frames c, gen_Machine_things c, gen_Machine_answer c, gen_Machine_calls c, gen_Machine_looks c, gen_Machine_hits c, gen_Machine_rows_done c, trivial⟩ h
theorem gloT {K : PySem.W.Frag} {h : Heap} {mg : Str → Option Value} (c : He.SaysD faT fnT K) (cc : exT K = true) (X : K.In h) (G : h.Ns mainGlobals mg) : Glo (moT K) mg where
  free := fun x hx => He.free_ok X G (SaysD.mem c (List.mem_append_left _ (List.mem_map_of_mem hx)))
  con := chkC_ok X G (ba cc).1
theorem plnT : (cdsT.all fun p => plnD nmT sgT.fn p.2) = true := by decide +kernel
theorem clsT {K : PySem.W.Frag} {h : Heap} {mg : Str → Option Value} (cc : exT K = true) (X : K.In h) (G : h.Ns mainGlobals mg) : ∀ c cd, sgT.cls c = some cd → ClsOk (moT K) mg c cd := fun c cd e =>
  chkD_ok (M := moT K) (at_ := atT) X G rfl (fun _ => rfl) (List.all_eq_true.mp (ba cc).2 _ (getC_mem e)) (List.all_eq_true.mp plnT _ (getC_mem e))
theorem fngT {K : PySem.W.Frag} {h : Heap} {mg : Str → Option Value} (c : He.SaysD faT fnT K) (X : K.In h) (G : h.Ns mainGlobals mg) : ∀ f, gfT f = true → mg (nmT f) = some (.ref (He.fAd K (atT f))) := fun f hf => by
  have e := He.glo_ok X G (SaysD.mem c (List.mem_append_right _ (List.mem_map_of_mem (f := fun f => He.Fa.glo (nmT f)) (List.contains_iff_mem.mp hf))))
  unfold atT
  rw [if_pos hf]
  exact e
abbrev R : PySem.W.OpenRow := PySem.W.OpenLaw.row PySem.Challenge.rw_elderhouse_k63_whole_remembered_or_not
abbrev hk : PySem.W.Hook := hookP 6 faT fnT exT
def ob (s : PySem.W.SharedT) : AlP := obsP 6 faT fnT exT (HandSHeadRun.getT s)
theorem ob_eq (s : PySem.W.SharedT) : ob s = hk.obs s.abs := obsP_eq (HandSHeadRun.getT_eq s)
def tnames0 : List Str := ["GREATEST", "within", "two_told", "SIGNS", "entered", "two_done", "gone_on", "stack_behind", "own_done", "MOST_PAIRS", "Places", "MOST_WITHIN", "Machine", "_law_cell_at", "_law_mixed", "_law_tell_rows", "_law_program", "_law_answer", "_law_remembered", "_law_alike"]
def topNames : List Str := tnames0
theorem run (w : World) : HandSHeadRun.RunEq R (PySem.W.view R.prog [25]) hk ob 100000 topNames w := by
  intro os
  kernel_rfl
theorem facts {P : Program} {w : World} {K : PySem.W.Frag} {h : Heap} {mg : Str → Option Value} {f : Addr} {k n : Nat} (X : K.In h) (G : h.Ns mainGlobals mg) (hfa : mg ("law" : Str) = some (.ref f)) (c : He.SaysD faT fnT K) (cc : exT K = true) :
    ∃ fd : FuncData, (∀ (s : Shared) (v : Value), BindsTo s fd ⟨[v], []⟩ [("_law_script", v)]) ∧ ∀ base : Heap, K.In base → base.Ns mainGlobals mg → FnG P w K mg base (L2.CX P w) (k + 1) f fd ["_law_script"] (spF (moT K) (k + 1) n_law 1) := by
  obtain ⟨fd, F⟩ := c.def_ 14 (d := ge_law) rfl
  have F' : FunD K ge_law.name ge_law.qual ge_law.params ge_law.body ge_law.scope [] (ge_law.kws K) ((moT K).fa n_law) fd := F
  have e := hfa.symm.trans (fngT c X G n_law rfl)
  have e' : f = (moT K).fa n_law := by injection e with e; injection e
  subst e'
  have b := FunD.bindsA (ps := ["_law_script"]) F' fun _ _ _ _ _ _ us hl => match us, hl with | [_], _ => rfl
  exact ⟨fd, fun s v => b s [v] rfl, fun base Xb Gb => fn_one (M := moT K) (f := n_law) (d := d_law) (gloT c cc X G) (fngT c X G) rfl (clsT cc X G) (fun j hj => funs_ok (gloT c cc X G) (fngT c X G) (clsT cc X G) (hallT c) k j hj) F' gc_law rfl rfl gm_law⟩
end Py

set_option Elab.async false
set_option linter.all false
set_option maxRecDepth 100000
set_option maxHeartbeats 4000000
/-! PyLaw: plain lemmas for readings. -/
namespace Py
open PySem
theorem strOk_lit (s : String) : PyData.strOk (Str.ofString s) = true := by
  rw [Str.ofString_eq_toList]
  unfold PyData.strOk
  rw [Array.all_eq_true']
  intro x hx
  simp only [List.mem_toArray, List.mem_map] at hx
  obtain ⟨c, _, rfl⟩ := hx
  have v : c.val.toNat < 0xd800 ∨ (0xdfff < c.val.toNat ∧ c.val.toNat < 0x110000) := c.valid
  have e : c.toNat = c.val.toNat := rfl
  refine decide_eq_true ?_
  rw [e]; omega
theorem lit_inj {a b : String} : Str.ofString a = Str.ofString b ↔ a = b := by
  constructor
  · intro e
    rw [Str.ofString_eq_toList, Str.ofString_eq_toList] at e
    injection e with e
    have e2 : a.toList.map Char.toNat = b.toList.map Char.toNat := by simpa using e
    have e3 : a.toList = b.toList := by
      have inj : ∀ (x y : List Char), x.map Char.toNat = y.map Char.toNat → x = y := by
        intro x
        induction x with
        | nil => intro y h; cases y with
          | nil => rfl
          | cons => cases h
        | cons c r ih => intro y h; cases y with
          | nil => cases h
          | cons d s =>
            simp only [List.map_cons, List.cons.injEq] at h
            have : c = d := Char.ext (UInt32.toNat_inj.mp h.1)
            rw [this, ih s h.2]
      exact inj _ _ e2
    exact String.toList_inj.mp e3
  · intro e; rw [e]
theorem lit_beq (a b : String) : (Str.ofString a == Str.ofString b) = (a == b) := by
  rw [Bool.eq_iff_iff, beq_iff_eq, beq_iff_eq]; exact lit_inj
theorem bqd {α : Type} [BEq α] [LawfulBEq α] [DecidableEq α] {a b : α} : (a == b) = decide (a = b) := by
  rw [Bool.eq_iff_iff, beq_iff_eq, decide_eq_true_iff]
mutual
def dat : PV → PyData
  | .non => .none
  | .bl b => .bool b
  | .int i => .int i
  | .str s => .str s
  | .tup xs => .tuple (dats xs)
  | .ref _ => .none
def dats : List PV → List PyData
  | [] => []
  | x :: r => dat x :: dats r
end
mutual
def flat : PV → Bool
  | .tup xs => flats xs
  | .ref _ => false
  | _ => true
def flats : List PV → Bool
  | [] => true
  | x :: r => flat x && flats r
end
mutual
theorem Dat_dat {h : PH} : ∀ x, flat x = true → Dat h (dat x) x
  | .non, _ => rfl
  | .bl b, _ => rfl
  | .int i, _ => rfl
  | .str s, _ => rfl
  | .tup xs, f => ⟨xs, rfl, Dats_dats xs f⟩
  | .ref _, f => by cases f
theorem Dats_dats {h : PH} : ∀ x, flats x = true → Dats h (dats x) x
  | [], _ => rfl
  | x :: r, f => by
    obtain ⟨a, b⟩ := Bool.and_eq_true_iff.mp (show (flat x && flats r) = true from f)
    exact ⟨x, r, rfl, Dat_dat x a, Dats_dats r b⟩
end
mutual
theorem Dat_un {h : PH} : ∀ d x, flat x = true → Dat h d x → d = dat x
  | .none, x, f, e => by cases (show x = .non from e); rfl
  | .bool b, x, f, e => by cases (show x = .bl b from e); rfl
  | .int i, x, f, e => by cases (show x = .int i from e); rfl
  | .str s, x, f, e => by cases (show x = .str s from e); rfl
  | .tuple ds, x, f, e => by
    obtain ⟨xs, rfl, e⟩ := e
    show PyData.tuple ds = .tuple (dats xs)
    rw [Dats_un ds xs f e]
  | .list ds, x, f, e => by
    obtain ⟨xs, e, _⟩ := e
    cases x with
    | ref a => cases f
    | _ => cases e
  | .dict _, x, f, e => e.elim
theorem Dats_un {h : PH} : ∀ d x, flats x = true → Dats h d x → d = dats x
  | [], x, f, e => by cases (show x = [] from e); rfl
  | d :: ds, x, f, e => by
    obtain ⟨y, ys, rfl, e1, e2⟩ := e
    obtain ⟨a, b⟩ := Bool.and_eq_true_iff.mp (show (flat y && flats ys) = true from f)
    show d :: ds = dat y :: dats ys
    rw [Dat_un d y a e1, Dats_un ds ys b e2]
end
def okV (x : PV) : Bool := flat x && SeqAt.shaped (dat x)
theorem cmp_eq {x y : PV} {h : PH} {Q : Bool → PH → Prop} (a : okV x = true) (b : okV y = true) : cmpV .eq x y h Q = Q (PyData.eqv (dat x) (dat y)) h := by
  obtain ⟨a1, a2⟩ := Bool.and_eq_true_iff.mp a
  obtain ⟨b1, b2⟩ := Bool.and_eq_true_iff.mp b
  have gen : (∃ d e, Dat h d x ∧ Dat h e y ∧ SeqAt.shaped d = true ∧ SeqAt.shaped e = true ∧ Q (PyData.eqv d e) h) = Q (PyData.eqv (dat x) (dat y)) h := by
    refine propext ⟨fun ⟨d, e, p, q, _, _, r⟩ => ?_, fun r => ⟨_, _, Dat_dat x a1, Dat_dat y b1, a2, b2, r⟩⟩
    rw [← Dat_un d x a1 p, ← Dat_un e y b1 q]; exact r
  cases x <;> cases y <;> first | exact gen | (show Q (decide (_ = _)) h = Q (_ == _) h; rw [bqd])
theorem cmp_ne {x y : PV} {h : PH} {Q : Bool → PH → Prop} (a : okV x = true) (b : okV y = true) : cmpV .ne x y h Q = Q (!PyData.eqv (dat x) (dat y)) h := by
  obtain ⟨a1, a2⟩ := Bool.and_eq_true_iff.mp a
  obtain ⟨b1, b2⟩ := Bool.and_eq_true_iff.mp b
  have gen : (∃ d e, Dat h d x ∧ Dat h e y ∧ SeqAt.shaped d = true ∧ SeqAt.shaped e = true ∧ Q (!PyData.eqv d e) h) = Q (!PyData.eqv (dat x) (dat y)) h := by
    refine propext ⟨fun ⟨d, e, p, q, _, _, r⟩ => ?_, fun r => ⟨_, _, Dat_dat x a1, Dat_dat y b1, a2, b2, r⟩⟩
    rw [← Dat_un d x a1 p, ← Dat_un e y b1 q]; exact r
  cases x <;> cases y <;> first | exact gen | (show Q (!decide (_ = _)) h = Q (!(_ == _)) h; rw [bqd])
theorem eq_int {i j : Int} {h : PH} {Q : Bool → PH → Prop} : cmpV .eq (.int i) (.int j) h Q = Q (decide (i = j)) h := by
  rw [cmp_eq rfl rfl]; show Q (i == j) h = _; rw [bqd]
theorem ne_int {i j : Int} {h : PH} {Q : Bool → PH → Prop} : cmpV .ne (.int i) (.int j) h Q = Q (decide (i ≠ j)) h := by
  rw [cmp_ne rfl rfl]; show Q (!(i == j)) h = _; rw [bqd, decide_not]
theorem okV_lit {s : String} : okV (.str (Str.ofString s)) = true := by
  show (true && (PyData.strOk (Str.ofString s) && _)) = true
  rw [strOk_lit]; rfl
theorem eq_lit {i j : String} {h : PH} {Q : Bool → PH → Prop} : cmpV .eq (.str (Str.ofString i)) (.str (Str.ofString j)) h Q = Q (decide (i = j)) h := by
  rw [cmp_eq okV_lit okV_lit]; show Q (Str.ofString i == Str.ofString j) h = _; rw [lit_beq, bqd]
theorem ne_lit {i j : String} {h : PH} {Q : Bool → PH → Prop} : cmpV .ne (.str (Str.ofString i)) (.str (Str.ofString j)) h Q = Q (decide (i ≠ j)) h := by
  rw [cmp_ne okV_lit okV_lit]; show Q (!(Str.ofString i == Str.ofString j)) h = _; rw [lit_beq, bqd, decide_not]
/-- a call, entered -/
theorem call_in {G : Sig} {k f : Nat} {d : FD} {args : List PV} {h : PH} {Q : KQ} {X : KX} (e : G.fn f = some d) (l : args.length = d.np) :
    callS G (k + 1) (.fn f) args h Q X = evB G (callS G k) d.body (startL d args) h ⟨fun _ h' => Q .non h', Q, fun _ _ => False, fun x _ h' => X x h'⟩ := by
  have e0 : fill d.dfl args d.np = args := by
    show args ++ d.dfl.drop (d.dfl.length - (d.np - args.length)) = args
    rw [l, Nat.sub_self, Nat.sub_zero, List.drop_length, List.append_nil]
  refine propext ⟨fun ⟨d', e', _, _, q⟩ => ?_, fun q => ⟨d, e, by rw [e0, l], Nat.le_of_eq l, by rw [e0]; exact q⟩⟩
  rw [e] at e'; cases e'
  rw [e0] at q; exact q
theorem ex_int {i : Int} {P : Int → Prop} : (∃ j, PV.int i = .int j ∧ P j) = P i := propext ⟨fun ⟨j, e, p⟩ => by cases e; exact p, fun p => ⟨i, rfl, p⟩⟩
theorem ex_bl {i : Bool} {P : Bool → Prop} : (∃ j, PV.bl i = .bl j ∧ P j) = P i := propext ⟨fun ⟨j, e, p⟩ => by cases e; exact p, fun p => ⟨i, rfl, p⟩⟩
theorem ex_tup {i : List PV} {P : List PV → Prop} : (∃ j, PV.tup i = .tup j ∧ P j) = P i := propext ⟨fun ⟨j, e, p⟩ => by cases e; exact p, fun p => ⟨i, rfl, p⟩⟩
theorem ex_some {α : Type} {i : α} {P : α → Prop} : (∃ j, some i = some j ∧ P j) = P i := propext ⟨fun ⟨j, e, p⟩ => by cases e; exact p, fun p => ⟨i, rfl, p⟩⟩
theorem ex_var {v : PV} {P : PV → Prop} : (∃ j, (some (some v) : Option (Option PV)) = some (some j) ∧ P j) = P v := propext ⟨fun ⟨j, e, p⟩ => by cases e; exact p, fun p => ⟨v, rfl, p⟩⟩
theorem bAdd {i j : Int} {h : PH} {Q : KQ} : binV .add (.int i) (.int j) h Q = Q (.int (i + j)) h := rfl
theorem bAddS {i j : Str} {h : PH} {Q : KQ} : binV .add (.str i) (.str j) h Q = (i.length + j.length ≤ SZ ∧ Q (.str (i ++ j)) h) := rfl
theorem bAddT {i j : List PV} {h : PH} {Q : KQ} : binV .add (.tup i) (.tup j) h Q = (i.length + j.length ≤ SZ ∧ Q (.tup (i ++ j)) h) := rfl
theorem bAddL {a b : Nat} {h : PH} {Q : KQ} : binV .add (.ref a) (.ref b) h Q = ∃ xs ys, h[a]? = some (.lst xs) ∧ h[b]? = some (.lst ys) ∧ xs.length + ys.length ≤ SZ ∧ Q (.ref h.length) (h ++ [.lst (xs ++ ys)]) := rfl
theorem bSub {i j : Int} {h : PH} {Q : KQ} : binV .sub (.int i) (.int j) h Q = Q (.int (i - j)) h := rfl
theorem bMul {i j : Int} {h : PH} {Q : KQ} : binV .mul (.int i) (.int j) h Q = (mulOk i j ∧ Q (.int (i * j)) h) := rfl
theorem bDiv {i j : Int} {h : PH} {Q : KQ} : binV .fdiv (.int i) (.int j) h Q = (j ≠ 0 ∧ j.natAbs.log2 < 9000 ∧ Q (.int (i.fdiv j)) h) := rfl
theorem bMod {i j : Int} {h : PH} {Q : KQ} : binV .mod (.int i) (.int j) h Q = (j ≠ 0 ∧ Q (.int (i.fmod j)) h) := rfl
theorem bPow {i j : Int} {h : PH} {Q : KQ} : binV .pow (.int i) (.int j) h Q = ((0 ≤ j ∧ j ≤ 1000000 ∧ i.natAbs < 2 ^ 64) ∧ Q (.int (i ^ j.toNat)) h) := rfl
/-- division by a literal -/
theorem bDivL {i j : Int} {h : PH} {Q : KQ} (p : 0 < j) (l : j < 18446744073709551616) : binV .fdiv (.int i) (.int j) h Q = Q (.int (i / j)) h := by
  rw [bDiv, Int.fdiv_eq_ediv_of_nonneg _ (by omega)]
  refine propext ⟨fun q => q.2.2, fun q => ⟨by omega, ?_, q⟩⟩
  have : j.natAbs.log2 < 64 := (Nat.log2_lt (by omega)).mpr (by omega)
  omega
theorem bModL {i j : Int} {h : PH} {Q : KQ} (p : 0 < j) : binV .mod (.int i) (.int j) h Q = Q (.int (i % j)) h := by
  rw [bMod, Int.fmod_eq_emod_of_nonneg _ (by omega)]
  exact propext ⟨fun q => q.2, fun q => ⟨by omega, q⟩⟩
theorem bMulR {i j : Int} {h : PH} {Q : KQ} (p : -18446744073709551616 < j) (l : j < 18446744073709551616) : binV .mul (.int i) (.int j) h Q = Q (.int (i * j)) h := propext ⟨fun q => q.2, fun q => ⟨.inr (by omega), q⟩⟩
theorem bMulL {i j : Int} {h : PH} {Q : KQ} (p : -18446744073709551616 < j) (l : j < 18446744073709551616) : binV .mul (.int j) (.int i) h Q = Q (.int (j * i)) h := propext ⟨fun q => q.2, fun q => ⟨.inl (by omega), q⟩⟩
theorem cLt {i j : Int} {h : PH} {Q : Bool → PH → Prop} : cmpV .lt (.int i) (.int j) h Q = Q (decide (i < j)) h := rfl
theorem cLe {i j : Int} {h : PH} {Q : Bool → PH → Prop} : cmpV .le (.int i) (.int j) h Q = Q (decide (i ≤ j)) h := rfl
theorem cGt {i j : Int} {h : PH} {Q : Bool → PH → Prop} : cmpV .gt (.int i) (.int j) h Q = Q (decide (j < i)) h := rfl
theorem cGe {i j : Int} {h : PH} {Q : Bool → PH → Prop} : cmpV .ge (.int i) (.int j) h Q = Q (decide (j ≤ i)) h := rfl
theorem cIs {x : PV} {h : PH} {Q : Bool → PH → Prop} : cmpV .isN x .non h Q = Q (isNonB x) h := rfl
theorem cNot {x : PV} {h : PH} {Q : Bool → PH → Prop} : cmpV .notN x .non h Q = Q (!isNonB x) h := rfl
theorem iTup {xs : List PV} {i : Int} {h : PH} {Q : KQ} : idxV (.tup xs) (.int i) h Q = ∃ v, atI xs i = some v ∧ Q v h := rfl
theorem iRef {a : Nat} {i : Int} {h : PH} {Q : KQ} : idxV (.ref a) (.int i) h Q = ∃ xs, lstOf h (.ref a) = some xs ∧ ∃ v, atI xs i = some v ∧ Q v h := propext ⟨fun ⟨xs, v, a, b, c⟩ => ⟨xs, a, v, b, c⟩, fun ⟨xs, a, v, b, c⟩ => ⟨xs, v, a, b, c⟩⟩
theorem iT0 {x : PV} {r : List PV} {h : PH} {Q : KQ} : idxV (.tup (x :: r)) (.int 0) h Q = Q x h := by
  rw [iTup]; refine propext ⟨fun ⟨v, e, q⟩ => ?_, fun q => ⟨x, ?_, q⟩⟩
  · have : atI (x :: r) (0 : Int) = some x := by
      unfold atI ixN; rw [if_pos (by omega), if_pos (by first | (simp; done) | (simp; omega))]; rfl
    rw [this] at e; cases e; exact q
  · unfold atI ixN; rw [if_pos (by omega), if_pos (by first | (simp; done) | (simp; omega))]; rfl
theorem iT1 {x y : PV} {r : List PV} {h : PH} {Q : KQ} : idxV (.tup (x :: y :: r)) (.int 1) h Q = Q y h := by
  have e1 : atI (x :: y :: r) (1 : Int) = some y := by
    unfold atI ixN; rw [if_pos (by omega), if_pos (by first | (simp; done) | (simp; omega))]; rfl
  rw [iTup]; refine propext ⟨fun ⟨v, e, q⟩ => ?_, fun q => ⟨y, e1, q⟩⟩
  rw [e1] at e; cases e; exact q
theorem fMin {i j : Int} {h : PH} {Q : KQ} : bfV .min2 [.int i, .int j] h Q = Q (.int (if j < i then j else i)) h := rfl
theorem fMax {i j : Int} {h : PH} {Q : KQ} : bfV .max2 [.int i, .int j] h Q = Q (.int (if j > i then j else i)) h := rfl
theorem fAbs {i : Int} {h : PH} {Q : KQ} : bfV .abs [.int i] h Q = Q (.int (if i < 0 then -i else i)) h := rfl
theorem fLenT {xs : List PV} {h : PH} {Q : KQ} : bfV .len [.tup xs] h Q = Q (.int xs.length) h := propext ⟨fun ⟨_, e, q⟩ => by cases e; exact q, fun q => ⟨xs, rfl, q⟩⟩
theorem fLenL {a : Nat} {h : PH} {Q : KQ} : bfV .len [.ref a] h Q = ∃ xs, lstOf h (.ref a) = some xs ∧ Q (.int xs.length) h := rfl
theorem sz2 {P : Prop} {n : Nat} (h : n ≤ SZ) : (n ≤ SZ ∧ P) = P := propext ⟨fun q => q.2, fun q => ⟨h, q⟩⟩
theorem tyT {xs : List PV} {h : PH} : tyN h (.tup xs) = some "tuple" := rfl
theorem tyI {i : Int} {h : PH} : tyN h (.int i) = some "int" := rfl
theorem tyB {b : Bool} {h : PH} : tyN h (.bl b) = some "bool" := rfl
theorem tyS {s : Str} {h : PH} : tyN h (.str s) = some "str" := rfl
theorem truB {b : Bool} {h : PH} : truV h (.bl b) = some b := rfl
theorem truI {b : Int} {h : PH} : truV h (.int b) = some (b != 0) := rfl
theorem bPowL {i j : Int} {h : PH} {Q : KQ} (a : 0 ≤ j) (b : j ≤ 1000000) (p : -18446744073709551616 < i) (l : i < 18446744073709551616) : binV .pow (.int i) (.int j) h Q = Q (.int (i ^ j.toNat)) h := propext ⟨fun q => q.2, fun q => ⟨⟨a, b, by omega⟩, q⟩⟩
theorem lstOf_app {h t : PH} {a : Nat} {xs : List PV} (e : lstOf h (.ref a) = some xs) : lstOf (h ++ t) (.ref a) = some xs := by
  unfold lstOf at e ⊢
  by_cases hl : a < h.length
  · simp only [List.getElem?_append_left hl]; exact e
  · simp only [List.getElem?_eq_none (Nat.le_of_not_lt hl)] at e; cases e
theorem lstOf_new {h : PH} {xs : List PV} : lstOf (h ++ [.lst xs]) (.ref h.length) = some xs := by
  unfold lstOf; simp
theorem items_ref {h : PH} {a : Nat} : itemsOf h (.ref a) = lstOf h (.ref a) := rfl
theorem items_tup {h : PH} {a : List PV} : itemsOf h (.tup a) = some a := rfl
theorem iter_inv {live : PH → Prop} {body : PV → Loc → PH → (Loc → PH → Prop) → Prop} {fin : Loc → PH → Prop} (Inv : Loc → PH → Prop) (hl : ∀ l h, Inv l h → live h) (hf : ∀ l h, Inv l h → fin l h) :
    ∀ (xs : List PV), (∀ x ∈ xs, ∀ l h K, Inv l h → (∀ l' h', Inv l' h' → K l' h') → body x l h K) → ∀ l h, Inv l h → iterL live body fin xs l h
  | [], _, l, h, i => ⟨hl l h i, hf l h i⟩
  | x :: r, hb, l, h, i => ⟨hl l h i, hb x (List.mem_cons_self ..) l h _ i fun l' h' i' => iter_inv Inv hl hf r (fun y hy => hb y (List.mem_cons_of_mem _ hy)) l' h' i'⟩
theorem mem_range {lo : Int} {n : Nat} {x : PV} (hx : x ∈ rangeL lo n) : ∃ k : Nat, k < n ∧ x = .int (lo + k) := by
  unfold rangeL at hx
  obtain ⟨k, a, b⟩ := List.mem_map.mp hx
  exact ⟨k, List.mem_range.mp a, b.symm⟩
theorem atI_nat {α : Type} {xs : List α} {k : Nat} : atI xs (k : Int) = xs[k]? := by
  unfold atI ixN
  rw [if_pos (Int.natCast_nonneg k)]
  by_cases hk : k < xs.length
  · rw [if_pos (by omega)]; rfl
  · rw [if_neg (by omega), List.getElem?_eq_none (Nat.le_of_not_lt hk)]; rfl
theorem bMulOk {i j : Int} {h : PH} {Q : KQ} (p : -18446744073709551616 < j ∧ j < 18446744073709551616) : binV .mul (.int i) (.int j) h Q = Q (.int (i * j)) h := bMulR p.1 p.2
theorem live_ref {a : Nat} {xs : List PV} {h : PH} : liveL (.ref a) xs h = (lstOf h (.ref a) = some xs) := rfl
theorem live_tup {a xs : List PV} {h : PH} : liveL (.tup a) xs h = True := rfl
theorem ex_cons {α : Type} {a : α} {b : List α} {P : α → List α → Prop} : (∃ v r, a :: b = v :: r ∧ P v r) = P a b := propext ⟨fun ⟨v, r, e, q⟩ => by cases e; exact q, fun q => ⟨a, b, rfl, q⟩⟩
end Py

set_option Elab.async false
set_option linter.all false
set_option maxRecDepth 100000
set_option maxHeartbeats 4000000
/-! PyLaw2: repr, comprehensions, sequences. -/
namespace Py
open PySem
/-! ### what repr takes -/
/-- flat data of depth at most n, shown in at most c signs -/
structure Rp (n c : Nat) (v : PV) : Prop where
  fl : flat v = true
  lay : (dat v).canLay0 = true
  dep : (dat v).depth ≤ n
  sho : (dat v).showable = true
  len : (dat v).shown.length ≤ c
theorem Rp.mono {n c n' c' : Nat} {v : PV} (r : Rp n c v) (h : n ≤ n') (h' : c ≤ c') : Rp n' c' v := ⟨r.fl, r.lay, Nat.le_trans r.dep h, r.sho, Nat.le_trans r.len h'⟩
theorem Rp.int {i : Int} (h : i.natAbs < 10 ^ 20) : Rp 0 21 (.int i) := by
  refine ⟨rfl, rfl, Nat.le_refl _, ?_, ?_⟩
  · show decide (i.natAbs.log2 < 1920) = true
    refine decide_eq_true ?_
    by_cases h0 : i.natAbs = 0
    · rw [h0]; decide
    · have : i.natAbs.log2 < 70 := (Nat.log2_lt h0).mpr (by omega)
      omega
  · have e := int_text_length_le10 (k := 20) (by decide) h
    show (Str.ofString (toString i)).length ≤ 21
    rw [ofString_length]; exact e
theorem Rp.bl {b : Bool} : Rp 0 5 (.bl b) := by
  refine ⟨rfl, rfl, Nat.le_refl _, rfl, ?_⟩
  cases b <;> decide +kernel
theorem Rp.non : Rp 0 5 .non := ⟨rfl, rfl, Nat.le_refl _, rfl, by decide +kernel⟩
theorem Rp.lit {s : String} {c : Nat} (h : (reprText (Str.ofString s)).length ≤ c) : Rp 0 c (.str (Str.ofString s)) := ⟨rfl, strOk_lit s, Nat.le_refl _, rfl, h⟩
theorem dats_app : ∀ (xs ys : List PV), dats (xs ++ ys) = dats xs ++ dats ys
  | [], _ => rfl
  | x :: xs, ys => congrArg (dat x :: ·) (dats_app xs ys)
theorem Rps {n c : Nat} : ∀ {xs : List PV}, (∀ x ∈ xs, Rp n c x) → flats xs = true ∧ PyData.canLayAll0 (dats xs) = true ∧ PyData.depthAll (dats xs) ≤ n ∧ PyData.showableAll (dats xs) = true ∧
    ((PyData.shownAll (dats xs)).map (·.length)).sum ≤ c * xs.length ∧ (PyData.shownAll (dats xs)).length = xs.length
  | [], _ => ⟨rfl, rfl, Nat.zero_le _, rfl, Nat.zero_le _, rfl⟩
  | x :: xs, h => by
    obtain ⟨a, b, c', d, e, f⟩ := Rps (fun y hy => h y (List.mem_cons_of_mem _ hy))
    have r := h x (List.mem_cons_self ..)
    refine ⟨by show (flat x && flats xs) = true; rw [r.fl, a]; rfl, by show (PyData.canLay0 _ && PyData.canLayAll0 _) = true; rw [r.lay, b]; rfl, ?_, by show (PyData.showable _ && PyData.showableAll _) = true; rw [r.sho, d]; rfl, ?_, by show (PyData.shownAll (dats xs)).length + 1 = xs.length + 1; rw [f]⟩
    · show max (PyData.depth (dat x)) (PyData.depthAll (dats xs)) ≤ n
      exact Nat.max_le.mpr ⟨r.dep, c'⟩
    · show (PyData.shown (dat x)).length + ((PyData.shownAll (dats xs)).map (·.length)).sum ≤ c * (xs.length + 1)
      have := r.len
      rw [Nat.mul_add, Nat.mul_one]; omega
theorem Rp.tup {n c m : Nat} {xs : List PV} (h : ∀ x ∈ xs, Rp n c x) (hm : xs.length ≤ m) : Rp (n + 1) ((c + 2) * m + 3) (.tup xs) := by
  obtain ⟨a, b, c', d, e, f⟩ := Rps h
  refine ⟨a, b, Nat.succ_le_succ c', d, ?_⟩
  have t := tupleText_len_le (PyData.shownAll (dats xs))
  show (tupleText (PyData.shownAll (dats xs))).length ≤ _
  rw [f] at t
  have h1 : c * xs.length ≤ c * m := Nat.mul_le_mul_left _ hm
  have h2 : (c + 2) * m = c * m + 2 * m := Nat.add_mul _ _ _
  omega
theorem ok_of {n c : Nat} {v : PV} (r : Rp n c v) (h : n ≤ 64) : okV v = true := by
  unfold okV SeqAt.shaped
  rw [r.fl, r.lay, decide_eq_true (Nat.le_trans r.dep h)]; rfl
/-- repr of a tuple -/
theorem s_repr {n c : Nat} {xs : List PV} {h : PH} {Q : KQ} (r : Rp n c (.tup xs)) (hn : n ≤ 64) (hc : c ≤ 16777216) (q : Q (.str (dat (.tup xs)).shown) h) : bfV .repr1 [.tup xs] h Q := by
  have o := ok_of r hn
  exact ⟨_, rfl, Dat_dat _ r.fl, (Bool.and_eq_true_iff.mp o).2, r.sho, Nat.le_trans r.len hc, q⟩
/-! ### comprehensions whose terms leave the heap as it is -/
theorem comp_all {live : PH → Prop} {h0 : PH} {body : PV → PH → (Option PV → PH → Prop) → Prop} {fin : PH → Prop} (P : PV → Prop) (hl : ∀ acc, live (h0 ++ [.lst acc])) :
    ∀ (items acc : List PV), (∀ x ∈ items, ∀ acc k, (∀ v, P v → k (some v) (h0 ++ [.lst acc])) → body x (h0 ++ [.lst acc]) k) → (∀ v ∈ acc, P v) → acc.length + items.length ≤ SZ →
      (∀ vs, vs.length = acc.length + items.length → (∀ v ∈ vs, P v) → fin (h0 ++ [.lst vs])) → compL live h0.length body fin items (h0 ++ [.lst acc])
  | [], acc, hb, ha, hz, hf => ⟨hl acc, hf acc rfl ha⟩
  | x :: r, acc, hb, ha, hz, hf => ⟨hl acc, hb x (List.mem_cons_self ..) acc _ fun v pv => ⟨acc, by simp, by simp at hz; omega, by
      have e : (h0 ++ [PO.lst acc]).set h0.length (.lst (acc ++ [v])) = h0 ++ [.lst (acc ++ [v])] := by
        rw [List.set_append_right _ _ (Nat.le_refl _), Nat.sub_self]; rfl
      rw [e]
      refine comp_all P hl r (acc ++ [v]) (fun y hy => hb y (List.mem_cons_of_mem _ hy)) (fun w hw => ?_) (by simp at hz ⊢; omega) (fun vs hv => hf vs (by simp at hv ⊢; omega))
      rcases List.mem_append.mp hw with hw | hw
      · exact ha w hw
      · rw [List.mem_singleton.mp hw]; exact pv⟩⟩
/-- a comprehension whose terms are told by f -/
theorem comp_fun {live : PH → Prop} {h0 : PH} {body : PV → PH → (Option PV → PH → Prop) → Prop} {fin : PH → Prop} (f : PV → Option PV) (hl : ∀ acc, live (h0 ++ [.lst acc])) :
    ∀ (items acc : List PV), (∀ x ∈ items, ∀ acc k, k (f x) (h0 ++ [.lst acc]) → body x (h0 ++ [.lst acc]) k) → acc.length + items.length ≤ SZ → fin (h0 ++ [.lst (acc ++ items.filterMap f)]) → compL live h0.length body fin items (h0 ++ [.lst acc])
  | [], acc, hb, hz, hf => ⟨hl acc, by rw [List.filterMap_nil, List.append_nil] at hf; exact hf⟩
  | x :: r, acc, hb, hz, hf => ⟨hl acc, hb x (List.mem_cons_self ..) acc _ (by
      cases e : f x with
      | none =>
        rw [List.filterMap_cons_none e] at hf
        exact comp_fun f hl r acc (fun y hy => hb y (List.mem_cons_of_mem _ hy)) (by simp at hz ⊢; omega) hf
      | some v =>
        rw [List.filterMap_cons_some e] at hf
        refine ⟨acc, by simp, by simp at hz; omega, ?_⟩
        have e2 : (h0 ++ [PO.lst acc]).set h0.length (.lst (acc ++ [v])) = h0 ++ [.lst (acc ++ [v])] := by
          rw [List.set_append_right _ _ (Nat.le_refl _), Nat.sub_self]; rfl
        rw [e2]
        exact comp_fun f hl r (acc ++ [v]) (fun y hy => hb y (List.mem_cons_of_mem _ hy)) (by simp at hz ⊢; omega) (by rw [List.append_assoc]; exact hf))⟩
/-! ### sequences -/
theorem at_last {α : Type} {xs : List α} {x : α} : atI (xs ++ [x]) (-1 : Int) = some x := by
  unfold atI ixN
  rw [if_neg (by omega), if_pos (by simp; omega)]
  have : (-1 + ((xs ++ [x]).length : Int)).toNat = xs.length := by simp; omega
  rw [this]; simp
theorem at_last1 {α : Type} {xs : List α} {x y : α} : atI (xs ++ [x, y]) (-1 : Int) = some y := by
  rw [show xs ++ [x, y] = (xs ++ [x]) ++ [y] by simp]; exact at_last
theorem at_last2 {α : Type} {xs : List α} {x y : α} : atI (xs ++ [x, y]) (-2 : Int) = some x := by
  unfold atI ixN
  rw [if_neg (by omega), if_pos (by simp; omega)]
  have : (-2 + ((xs ++ [x, y]).length : Int)).toNat = xs.length := by simp; omega
  rw [this]; simp
theorem cut_last {α : Type} {xs : List α} {x : α} : cut (xs ++ [x]) none (some (-1)) = xs := by
  unfold cut sIx
  dsimp only
  have : (-1 + ((xs ++ [x]).length : Int)).toNat = xs.length := by simp; omega
  rw [if_pos (by omega), this]; simp
theorem cut_last2 {α : Type} {xs : List α} {x y : α} : cut (xs ++ [x, y]) none (some (-2)) = xs := by
  unfold cut sIx
  dsimp only
  have : (-2 + ((xs ++ [x, y]).length : Int)).toNat = xs.length := by simp; omega
  rw [if_pos (by omega), this]; simp
theorem inT {a : Str} {xs : List PV} {h : PH} {Q : Bool → PH → Prop} : cmpV .inn (.str a) (.tup xs) h Q = (xs.all flP = true ∧ Q (xs.any fun z => eqP z (.str a)) h) :=
  propext ⟨fun ⟨ys, e, _, f, q⟩ => by cases e; exact ⟨f, q⟩, fun ⟨f, q⟩ => ⟨xs, rfl, rfl, f, q⟩⟩
theorem notBl {x : PV} {b : Bool} {h : PH} {Q : Bool → PH → Prop} : cmpV .notN x (.bl b) h Q = (notRef x = true ∧ Q (!isBlB b x) h) := rfl
theorem isBl {x : PV} {b : Bool} {h : PH} {Q : Bool → PH → Prop} : cmpV .isN x (.bl b) h Q = (notRef x = true ∧ Q (isBlB b x) h) := rfl
theorem slT {xs : List PV} {lo hi : Option Int} {h : PH} {Q : KQ} : slcV (.tup xs) lo hi h Q = Q (.tup (cut xs lo hi)) h := rfl
theorem slL {a : Nat} {lo hi : Option Int} {h : PH} {Q : KQ} : slcV (.ref a) lo hi h Q = ∃ xs, lstOf h (.ref a) = some xs ∧ Q (.ref h.length) (h ++ [.lst (cut xs lo hi)]) := rfl
theorem fTupL {a : Nat} {h : PH} {Q : KQ} : bfV .tuple1 [.ref a] h Q = ∃ xs, lstOf h (.ref a) = some xs ∧ Q (.tup xs) h := rfl
theorem fTupT {xs : List PV} {h : PH} {Q : KQ} : bfV .tuple1 [.tup xs] h Q = Q (.tup xs) h := rfl
theorem fListL {a : Nat} {h : PH} {Q : KQ} : bfV .list1 [.ref a] h Q = ∃ xs, lstOf h (.ref a) = some xs ∧ Q (.ref h.length) (h ++ [.lst xs]) := rfl
theorem fInt {i : Int} {h : PH} {Q : KQ} : bfV .int1 [.int i] h Q = Q (.int i) h := rfl
theorem fIntB {i : Bool} {h : PH} {Q : KQ} : bfV .int1 [.bl i] h Q = Q (.int (if i then 1 else 0)) h := rfl
theorem mApp {a : Nat} {y : PV} {h : PH} {Q : KQ} : bmV .append (.ref a) [y] h Q = ∃ xs, h[a]? = some (.lst xs) ∧ xs.length < SZ ∧ Q .non (h.set a (.lst (xs ++ [y]))) := rfl
theorem wipe0 {l : Loc} : wipeL l [] = l := rfl
theorem wipe1 {l : Loc} {v : Nat} {vs : List Nat} : wipeL l (v :: vs) = (wipeL l vs).set v none := rfl
theorem get_new {h : PH} {o : PO} : (h ++ [o])[h.length]? = some o := by simp
theorem set_new {h : PH} {o u : PO} : (h ++ [o]).set h.length u = h ++ [u] := by
  rw [List.set_append_right _ _ (Nat.le_refl _), Nat.sub_self]; rfl
theorem ex_lst {a : List PV} {P : List PV → Prop} : (∃ acc, some (PO.lst a) = some (PO.lst acc) ∧ P acc) = P a := propext ⟨fun ⟨j, e, p⟩ => by cases e; exact p, fun p => ⟨a, rfl, p⟩⟩
theorem iL0 {a : Nat} {x : PV} {r : List PV} {h : PH} {Q : KQ} (e : lstOf h (.ref a) = some (x :: r)) : idxV (.ref a) (.int 0) h Q = Q x h := by
  have e1 : atI (x :: r) (0 : Int) = some x := by
    unfold atI ixN; rw [if_pos (by omega), if_pos (by first | (simp; done) | (simp; omega))]; rfl
  rw [iRef]
  exact propext ⟨fun ⟨xs, e2, v, e3, q⟩ => by rw [e] at e2; cases e2; rw [e1] at e3; cases e3; exact q, fun q => ⟨_, e, x, e1, q⟩⟩
theorem iAt {xs : List PV} {i : Int} {v : PV} (e : atI xs i = some v) {h : PH} {Q : KQ} : idxV (.tup xs) (.int i) h Q = Q v h := by
  rw [iTup]; exact propext ⟨fun ⟨w, e2, q⟩ => by rw [e] at e2; cases e2; exact q, fun q => ⟨v, e, q⟩⟩
theorem iM1 {xs : List PV} {x : PV} {h : PH} {Q : KQ} : idxV (.tup (xs ++ [x])) (.int (-1)) h Q = Q x h := iAt at_last
theorem iM1' {xs : List PV} {x y : PV} {h : PH} {Q : KQ} : idxV (.tup (xs ++ [x, y])) (.int (-1)) h Q = Q y h := iAt at_last1
theorem iM2 {xs : List PV} {x y : PV} {h : PH} {Q : KQ} : idxV (.tup (xs ++ [x, y])) (.int (-2)) h Q = Q x h := iAt at_last2
end Py

set_option Elab.async false
set_option linter.all false
set_option maxRecDepth 100000
set_option maxHeartbeats 4000000
/-! PyLaw3: instances, dicts, what stays of a heap. -/
namespace Py
open PySem
section
variable {G : Sig} {h : PH} {p c f : Nat} {fs : List (Nat × PV)} {cd : CD} {v : PV}
/-- a field read -/
theorem ex_attr {R : PV → Prop} (e : h[p]? = some (.ins c fs)) (hc : G.cls c = some cd) (hf : cd.fields.contains f = true) (g : getN f fs = some v) :
    (∃ p' c' fs' v' cd', PV.ref p = .ref p' ∧ h[p']? = some (.ins c' fs') ∧ G.cls c' = some cd' ∧ cd'.fields.contains f = true ∧ getN f fs' = some v' ∧ R v') = R v := by
  refine propext ⟨fun ⟨p', c', fs', v', cd', e1, e2, e3, _, e5, q⟩ => ?_, fun q => ⟨p, c, fs, v, cd, rfl, e, hc, hf, g, q⟩⟩
  cases e1
  rw [e] at e2; cases e2
  rw [g] at e5; cases e5
  exact q
/-- a field set -/
theorem ex_set {R : Nat → Nat → List (Nat × PV) → Prop} (e : h[p]? = some (.ins c fs)) (hc : G.cls c = some cd) (hf : cd.fields.contains f = true) (hl : fs.length < 900) :
    (∃ p' c' fs' cd', PV.ref p = .ref p' ∧ h[p']? = some (.ins c' fs') ∧ G.cls c' = some cd' ∧ cd'.fields.contains f = true ∧ fs'.length < 900 ∧ R p' c' fs') = R p c fs := by
  refine propext ⟨fun ⟨p', c', fs', cd', e1, e2, _, _, _, q⟩ => ?_, fun q => ⟨p, c, fs, cd, rfl, e, hc, hf, hl, q⟩⟩
  cases e1
  rw [e] at e2; cases e2
  exact q
/-- a method found -/
theorem ex_meth {m : Nat} {R : Nat → Prop} (e : h[p]? = some (.ins c fs)) (hc : G.cls c = some cd) (hm : getM m cd.meths = some f) :
    (∃ p' c' fs' cd' f', PV.ref p = .ref p' ∧ h[p']? = some (.ins c' fs') ∧ G.cls c' = some cd' ∧ getM m cd'.meths = some f' ∧ R f') = R f := by
  refine propext ⟨fun ⟨p', c', fs', cd', f', e1, e2, e3, e4, q⟩ => ?_, fun q => ⟨p, c, fs, cd, f, rfl, e, hc, hm, q⟩⟩
  cases e1
  rw [e] at e2; cases e2
  rw [hc] at e3; cases e3
  rw [hm] at e4; cases e4
  exact q
end
section
variable {h : PH} {p : Nat} {kvs : List (PV × PV)} {k z : PV}
theorem ty_dic (e : h[p]? = some (.dic kvs)) : tyN h (.ref p) = some "dict" := by
  unfold tyN; dsimp only; rw [e]
/-- d.get(k, z) -/
theorem ex_dget {R : List (PV × PV) → Prop} (e : h[p]? = some (.dic kvs)) (hk : isK k = true) : (∃ p' kvs', PV.ref p = .ref p' ∧ h[p']? = some (.dic kvs') ∧ isK k = true ∧ R kvs') = R kvs := by
  refine propext ⟨fun ⟨p', kvs', e1, e2, _, q⟩ => ?_, fun q => ⟨p, kvs, rfl, e, hk, q⟩⟩
  cases e1
  rw [e] at e2; cases e2
  exact q
/-- d[k] = z -/
theorem put_dic {Q : PH → Prop} (e : h[p]? = some (.dic kvs)) (hk : isK k = true) (hl : kvs.length < SZ) : putV (.ref p) k z h Q = Q (h.set p (.dic (putD k z kvs))) := by
  unfold putV; dsimp only; rw [e]; dsimp only
  exact propext ⟨fun q => q.2.2, fun q => ⟨hk, hl, q⟩⟩
/-- xs[i] = z -/
theorem put_lst {Q : PH → Prop} {xs : List PV} {i : Int} {j : Nat} (e : h[p]? = some (.lst xs)) (hj : ixN xs.length i = some j) : putV (.ref p) (.int i) z h Q = Q (h.set p (.lst (xs.set j z))) := by
  unfold putV; dsimp only; rw [e]; dsimp only
  refine propext ⟨fun ⟨a, b, c, d, q⟩ => ?_, fun q => ⟨i, j, rfl, hj, q⟩⟩
  cases c; rw [hj] at d; cases d; exact q
end
/-! ### what stays -/
/-- h' is h, but for the objects of D, and longer -/
structure Stays (D : List Nat) (h h' : PH) : Prop where
  le : h.length ≤ h'.length
  at_ : ∀ a o, a ∉ D → h[a]? = some o → h'[a]? = some o
theorem Stays.refl {D : List Nat} {h : PH} : Stays D h h := ⟨Nat.le_refl _, fun _ _ _ e => e⟩
theorem Stays.trans {D : List Nat} {h h1 h2 : PH} (a : Stays D h h1) (b : Stays D h1 h2) : Stays D h h2 := ⟨Nat.le_trans a.le b.le, fun x o n e => b.at_ x o n (a.at_ x o n e)⟩
theorem Stays.mono {D D' : List Nat} {h h1 : PH} (a : Stays D h h1) (s : ∀ x ∈ D, x ∈ D') : Stays D' h h1 := ⟨a.le, fun x o n e => a.at_ x o (fun z => n (s x z)) e⟩
theorem Stays.app {D : List Nat} {h t : PH} : Stays D h (h ++ t) := ⟨by simp, fun a o _ e => by rw [List.getElem?_append_left (List.getElem?_eq_some_iff.mp e).1]; exact e⟩
theorem Stays.set {D : List Nat} {h : PH} {p : Nat} {o : PO} (m : p ∈ D) : Stays D h (h.set p o) := ⟨by simp, fun a u n e => by
  rw [List.getElem?_set_ne (show p ≠ a from fun z => n (by rw [← z]; exact m))]; exact e⟩
/-- an object that is new stays out of the way -/
theorem Stays.set_new {D : List Nat} {h h1 : PH} {p : Nat} {o : PO} (s : Stays D h h1) (n : h.length ≤ p) : Stays D h (h1.set p o) := ⟨by simpa using s.le, fun a u na e => by
  have := (List.getElem?_eq_some_iff.mp e).1
  rw [List.getElem?_set_ne (by omega)]; exact s.at_ a u na e⟩
theorem Stays.lst {D : List Nat} {h h1 : PH} {a : Nat} {xs : List PV} (s : Stays D h h1) (n : a ∉ D) (e : lstOf h (.ref a) = some xs) : lstOf h1 (.ref a) = some xs := by
  unfold lstOf at e ⊢
  dsimp only at e ⊢
  cases q : h[a]? with
  | none => rw [q] at e; cases e
  | some o => rw [s.at_ a o n q]; rw [q] at e; exact e

theorem get_app {h t : PH} {p : Nat} {o : PO} (e : h[p]? = some o) : (h ++ t)[p]? = some o := by
  rw [List.getElem?_append_left (List.getElem?_eq_some_iff.mp e).1]; exact e
theorem lst_got {h : PH} {p : Nat} {xs : List PV} (e : h[p]? = some (.lst xs)) : lstOf h (.ref p) = some xs := by
  unfold lstOf; dsimp only; rw [e]
end Py

set_option Elab.async false
set_option linter.all false
set_option maxRecDepth 100000
set_option maxHeartbeats 4000000
/-! PyLaw4: loops by turns, equality and repr of lists. -/
namespace Py
open PySem
theorem iter_invN {live : PH → Prop} {body : PV → Loc → PH → (Loc → PH → Prop) → Prop} {fin : Loc → PH → Prop} (Inv : Nat → Loc → PH → Prop) (hl : ∀ i l h, Inv i l h → live h) :
    ∀ (xs : List PV) (b : Nat), (∀ i x, xs[i]? = some x → ∀ l h K, Inv (b + i) l h → (∀ l' h', Inv (b + i + 1) l' h' → K l' h') → body x l h K) → (∀ l h, Inv (b + xs.length) l h → fin l h) → ∀ l h, Inv b l h → iterL live body fin xs l h
  | [], b, _, hf, l, h, i => ⟨hl b l h i, hf l h i⟩
  | x :: r, b, hb, hf, l, h, i => ⟨hl b l h i, hb 0 x rfl l h _ i fun l' h' i' => iter_invN Inv hl r (b + 1) (fun j y hy l h K iv hK => hb (j + 1) y (by simpa using hy) l h K (by rw [show b + (j + 1) = b + 1 + j by omega]; exact iv) (by rw [show b + (j + 1) + 1 = b + 1 + j + 1 by omega]; exact hK))
      (fun l h iv => hf l h (by rw [List.length_cons, show b + (r.length + 1) = b + 1 + r.length by omega]; exact iv)) l' h' i'⟩
theorem ty_get {h : PH} {p : Nat} {xs : List PV} (e : h[p]? = some (.lst xs)) : tyN h (.ref p) = some "list" := by
  unfold tyN; dsimp only; rw [e]
theorem lstOf_set {h : PH} {a p : Nat} {o : PO} (n : a ≠ p) : lstOf (h.set p o) (.ref a) = lstOf h (.ref a) := by
  unfold lstOf; dsimp only; rw [List.getElem?_set_ne (Ne.symm n)]
theorem lstOf_lt {h : PH} {a : Nat} {xs : List PV} (e : lstOf h (.ref a) = some xs) : a < h.length := by
  unfold lstOf at e; dsimp only at e
  cases q : h[a]? with
  | none => rw [q] at e; cases e
  | some o => exact (List.getElem?_eq_some_iff.mp q).1
mutual
theorem eqv_self : ∀ d : PyData, d.canLay0 = true → PyData.eqv d d = true
  | .none, _ => rfl
  | .bool b, _ => by cases b <;> rfl
  | .int i, _ => beq_self_eq_true i
  | .str x, _ => beq_self_eq_true x
  | .list xs, h => eqvs_self xs h
  | .tuple xs, h => eqvs_self xs h
  | .dict _, h => by cases h
theorem eqvs_self : ∀ d : List PyData, PyData.canLayAll0 d = true → PyData.eqvAll d d = true
  | [], _ => rfl
  | x :: xs, h => by
    obtain ⟨a, b⟩ := Bool.and_eq_true_iff.mp (show (PyData.canLay0 x && PyData.canLayAll0 xs) = true from h)
    show (PyData.eqv x x && PyData.eqvAll xs xs) = true
    rw [eqv_self x a, eqvs_self xs b]; rfl
end
/-- flat lists side by side -/
theorem eq_lists {a b : Nat} {xs ys : List PV} {h : PH} {Q : Bool → PH → Prop} (ha : lstOf h (.ref a) = some xs) (hb : lstOf h (.ref b) = some ys) (f1 : flats xs = true) (f2 : flats ys = true) (s1 : SeqAt.shaped (.list (dats xs)) = true) (s2 : SeqAt.shaped (.list (dats ys)) = true)
    (q : Q (PyData.eqvAll (dats xs) (dats ys)) h) : cmpV .eq (.ref a) (.ref b) h Q :=
  ⟨.list (dats xs), .list (dats ys), ⟨xs, ha, Dats_dats xs f1⟩, ⟨ys, hb, Dats_dats ys f2⟩, s1, s2, q⟩
theorem ne_lists {a b : Nat} {xs ys : List PV} {h : PH} {Q : Bool → PH → Prop} (ha : lstOf h (.ref a) = some xs) (hb : lstOf h (.ref b) = some ys) (f1 : flats xs = true) (f2 : flats ys = true) (s1 : SeqAt.shaped (.list (dats xs)) = true) (s2 : SeqAt.shaped (.list (dats ys)) = true)
    (q : Q (!PyData.eqvAll (dats xs) (dats ys)) h) : cmpV .ne (.ref a) (.ref b) h Q :=
  ⟨.list (dats xs), .list (dats ys), ⟨xs, ha, Dats_dats xs f1⟩, ⟨ys, hb, Dats_dats ys f2⟩, s1, s2, q⟩
theorem s_reprL {n c k a : Nat} {xs : List PV} {h : PH} {Q : KQ} (e : lstOf h (.ref a) = some xs) (r : ∀ x ∈ xs, Rp n c x) (hk : xs.length ≤ k) (hn : n ≤ 63) (hc : (c + 2) * k + 3 ≤ 16777216) (q : Q (.str (PyData.list (dats xs)).shown) h) : bfV .repr1 [.ref a] h Q := by
  obtain ⟨a1, b, c', d, e', f⟩ := Rps r
  have sh : SeqAt.shaped (.list (dats xs)) = true := by
    unfold SeqAt.shaped
    show (PyData.canLayAll0 (dats xs) && decide (PyData.depthAll (dats xs) + 1 ≤ 64)) = true
    rw [b, decide_eq_true (show PyData.depthAll (dats xs) + 1 ≤ 64 by omega)]; rfl
  refine ⟨.list (dats xs), rfl, ⟨xs, e, Dats_dats xs a1⟩, sh, d, ?_, q⟩
  have t := listText_len_le (PyData.shownAll (dats xs))
  show (listText (PyData.shownAll (dats xs))).length ≤ _
  rw [f] at t
  have h1 : c * xs.length ≤ c * k := Nat.mul_le_mul_left _ hk
  have h2 : (c + 2) * k = c * k + 2 * k := Nat.add_mul _ _ _
  show _ ≤ 16777216
  omega
/-- what repr takes may be compared -/
theorem shaped_rps {n c : Nat} {xs : List PV} (r : ∀ x ∈ xs, Rp n c x) (hn : n ≤ 63) : SeqAt.shaped (.list (dats xs)) = true := by
  obtain ⟨a1, b, c', d, e', f⟩ := Rps r
  unfold SeqAt.shaped
  show (PyData.canLayAll0 (dats xs) && decide (PyData.depthAll (dats xs) + 1 ≤ 64)) = true
  rw [b, decide_eq_true (show PyData.depthAll (dats xs) + 1 ≤ 64 by omega)]; rfl
end Py

set_option Elab.async false
set_option linter.all false
set_option maxRecDepth 100000
set_option maxHeartbeats 4000000
/-! The places, over the reading. -/
namespace Py
open PySem
def rowV (l : List (Int × Int)) : List PV := l.map fun p => .tup [.int p.1, .int p.2]
theorem k_MOST : sgT.con n_MOST_PAIRS = some (.int 2) := rfl
def cPlaces : CD := ⟨n_Places___init__, [(n_asked, n_Places_asked), (n_put, n_Places_put), (n_told, n_Places_told)], [n_pairs]⟩
theorem c_Places : sgT.cls n_Places = some cPlaces := rfl
/-- a dict of rows: m tells the row of each site -/
structure Dic (R : Nat → Prop) (n : Nat) (h : PH) (d : Nat) (m : Int → List (Int × Int)) : Prop where
  ex : ∃ kvs, h[d]? = some (.dic kvs) ∧ kvs.length ≤ n ∧ ∀ s : Int, match lookD (.int s) kvs with
    | none => m s = []
    | some v => ∃ a, v = .ref a ∧ h[a]? = some (.lst (rowV (m s))) ∧ R a
theorem look_put {s x : Int} {v : PV} : ∀ {kvs : List (PV × PV)}, lookD (.int x) (putD (.int s) v kvs) = if x = s then some v else lookD (.int x) kvs := by
  intro kvs
  unfold putD
  have map : ∀ r : List (PV × PV), lookD (.int x) (r.map fun p => if eqK p.1 (.int s) = true then (p.1, v) else p) = if x = s then (lookD (.int x) r).map fun _ => v else lookD (.int x) r := by
    intro r
    induction r with
    | nil => show none = _; split <;> rfl
    | cons q r ih =>
      obtain ⟨a, b⟩ := q
      rw [List.map_cons]
      by_cases e1 : eqK a (.int s) = true
      · rw [show (if eqK (a, b).1 (.int s) = true then ((a, b).1, v) else (a, b)) = (a, v) from if_pos e1]
        show (if eqK a (.int x) = true then some v else _) = if x = s then (if eqK a (.int x) = true then some b else lookD (.int x) r).map _ else if eqK a (.int x) = true then some b else lookD (.int x) r
        rw [ih]
        by_cases hx : x = s
        · subst hx; rw [if_pos e1, if_pos rfl, if_pos e1]; rfl
        · have e2 : ¬ eqK a (.int x) = true := fun e2 => by
            cases a <;> first | exact absurd e1 Bool.false_ne_true | skip
            exact hx ((of_decide_eq_true e2).symm.trans (of_decide_eq_true e1))
          rw [if_neg e2, if_neg hx, if_neg hx, if_neg e2]
      · rw [show (if eqK (a, b).1 (.int s) = true then ((a, b).1, v) else (a, b)) = (a, b) from if_neg e1]
        show (if eqK a (.int x) = true then some b else _) = if x = s then (if eqK a (.int x) = true then some b else lookD (.int x) r).map _ else if eqK a (.int x) = true then some b else lookD (.int x) r
        rw [ih]
        by_cases hx : x = s
        · subst hx; rw [if_neg e1, if_pos rfl, if_pos rfl, if_neg e1]
        · rw [if_neg hx, if_neg hx]
  have any : ∀ r : List (PV × PV), (r.any fun p => eqK p.1 (.int s)) = (lookD (.int s) r).isSome := by
    intro r
    induction r with
    | nil => rfl
    | cons q r ih =>
      obtain ⟨a, b⟩ := q
      rw [List.any_cons, ih]
      show (eqK a (.int s) || _) = (if eqK a (.int s) = true then some b else lookD (.int s) r).isSome
      cases eqK a (.int s) <;> rfl
  have snoc : ∀ r : List (PV × PV), lookD (.int s) r = none → lookD (.int x) (r ++ [(.int s, v)]) = if x = s then some v else lookD (.int x) r := by
    intro r
    induction r with
    | nil =>
      intro _
      show (if decide (s = x) = true then some v else none) = _
      by_cases hx : x = s
      · subst hx; simp
      · rw [if_neg hx, if_neg (by simpa using Ne.symm hx)]; rfl
    | cons q r ih =>
      obtain ⟨a, b⟩ := q
      intro hn
      have hn : (if eqK a (.int s) = true then some b else lookD (.int s) r) = none := hn
      show (if eqK a (.int x) = true then some b else _) = if x = s then some v else if eqK a (.int x) = true then some b else lookD (.int x) r
      by_cases e1 : eqK a (.int s) = true
      · rw [if_pos e1] at hn; cases hn
      · rw [if_neg e1] at hn
        have ih := ih hn
        by_cases hx : x = s
        · subst hx; rw [if_neg e1, if_pos rfl]; rw [if_pos rfl] at ih; exact ih
        · rw [if_neg hx] at ih ⊢
          rw [← ih]; rfl
  rw [any]
  cases e : lookD (.int s) kvs with
  | none =>
    show lookD (.int x) (if false = true then _ else _) = _
    rw [if_neg Bool.false_ne_true]
    exact snoc kvs e
  | some b =>
    show lookD (.int x) (if true = true then _ else _) = _
    rw [if_pos rfl, map]
    by_cases hx : x = s
    · subst hx; rw [if_pos rfl, if_pos rfl, e]; rfl
    · rw [if_neg hx, if_neg hx]
section
variable {R : Nat → Prop} {k n : Nat} {h : PH} {p d : Nat} {m : Int → List (Int × Int)} {s : Int} {Q : KQ} {X : KX}
theorem cut2 {α : Type} {xs : List α} : cut xs none (some 2) = xs.take 2 := by
  unfold cut sIx
  dsimp only
  rw [if_neg (by omega), List.drop_zero, Nat.sub_zero]
  by_cases hl : 2 ≤ xs.length
  · rw [show min (2 : Int).toNat xs.length = 2 by omega]
  · rw [show min (2 : Int).toNat xs.length = xs.length by omega, List.take_length, List.take_of_length_le (by omega)]
theorem s_put {a b : Int} (hp : h[p]? = some (.ins n_Places [(n_pairs, .ref d)])) (D : Dic R n h d m) (hn : n < 1000000) (hm2 : ∀ s, (m s).length ≤ 2)
    (q : ∀ h', Stays [d] h h' → (∀ R' : Nat → Prop, (∀ a, R a → R' a) → (∀ a, h.length ≤ a → a < h'.length → R' a) → Dic R' (n + 1) h' d (fun x => if x = s then ((a, b) :: m s).take 2 else m x)) → Q .non h') : callS sgT (k + 1) (.fn n_Places_put) [.ref p, .int s, .int a, .int b] h Q X := by
  obtain ⟨kvs, hd, hl, hm⟩ := D.ex
  have hf : cPlaces.fields.contains n_pairs = true := rfl
  have hg : getN n_pairs [(n_pairs, PV.ref d)] = some (.ref d) := rfl
  rw [call_in (d := d_Places_put) rfl rfl]
  simp only [evB, evS, evE, evEs, evO, evC, evT, evG, evGs, bAdd, bAddT, bSub, bMulL, bMulR, bDivL, bModL, cLt, cLe, cGt, cGe, cIs, cNot, iT0, iT1, fMin, fMax, fAbs, fLenT, tyT, tyI, tyB, tyS, truB, truI, ex_int, ex_bl, ex_tup, ex_some, ex_cons, eq_self, ex_var, eq_int, ne_int, eq_lit, ne_lit, startL, List.map_cons, List.map_nil, List.cons_append, List.nil_append, List.length_cons, List.length_nil, List.replicate, List.getElem?_cons_zero, List.getElem?_cons_succ, List.set_cons_zero, List.set_cons_succ, lenTs, Int.reduceToNat, Int.reducePow, Int.reduceSub, Int.reduceAdd, Int.reduceMul, Int.reduceNeg, Int.reduceLT, Int.reduceLE, Int.reduceEq, Nat.reduceLT, Nat.reduceLeDiff, Nat.reduceAdd, Nat.reduceSub, Nat.reducePow, bPowL, SZ, tyOf, evI, items_ref, items_tup, live_ref, live_tup, lstOf_new, true_and, and_true, ne_eq, not_true_eq_false, not_false_eq_true, Int.cast_ofNat_Int, decide_eq_true_eq, if_true, if_false, ite_true, ite_false, List.nil_append, isB, String.reduceBEq, String.reduceEq, decide_true, decide_false, Bool.false_eq_true, Bool.or_false, Bool.and_false, Bool.or_true, Bool.and_true, Bool.true_and, Bool.false_and, Bool.not_true, Bool.not_false, ite_true, ite_false, reduceIte, Bool.true_or, Bool.false_or, gt_iff_lt, ge_iff_le, iM1, iM1', iM2, cut_last, cut_last2, slT, fTupL, fTupT, fListL, fInt, fIntB, wipe0, wipe1, tNs, tsNs, inT, isBl, notBl, List.all_cons, List.all_nil, List.any_cons, List.any_nil, flP, eqP, isBlB, notRef, lit_beq, List.append_nil, List.not_mem_nil, isNonB, Int.neg_neg, Int.reduceNegSucc, d_Places_put, b_Places_put, ex_attr (get_app hp) c_Places hf hg, ty_dic (get_app hd), k_MOST]
  rw [ex_dget (get_app (get_app hd)) rfl]
  have row : ∃ r, (lookD (.int s) kvs).getD (.ref (h ++ [PO.lst [PV.tup [.int a, .int b]]]).length) = .ref r ∧ (h ++ [PO.lst [PV.tup [.int a, .int b]]] ++ [PO.lst []])[r]? = some (.lst (rowV (m s))) := by
    have hs := hm s
    cases e : lookD (.int s) kvs with
    | none =>
      rw [e] at hs
      have hs : m s = [] := hs
      rw [hs]
      exact ⟨_, rfl, get_new⟩
    | some v =>
      rw [e] at hs
      obtain ⟨r, rfl, hr, hz⟩ := hs
      exact ⟨r, rfl, get_app (get_app hr)⟩
  obtain ⟨r, er, hr⟩ := row
  rw [er, bAddL]
  have l2 := hm2 s
  have hd2 : (h ++ [PO.lst [PV.tup [.int a, .int b]]] ++ [PO.lst []])[d]? = some (.dic kvs) := get_app (get_app hd)
  have hp2 : (h ++ [PO.lst [PV.tup [.int a, .int b]]] ++ [PO.lst []])[p]? = some (.ins n_Places [(n_pairs, .ref d)]) := get_app (get_app hp)
  have st : Stays [d] h (h ++ [PO.lst [PV.tup [.int a, .int b]]] ++ [PO.lst []]) := Stays.app.trans Stays.app
  refine ⟨_, _, get_app get_new, hr, by show _ ≤ 16777216; simp [rowV]; omega, ?_⟩
  generalize h ++ [PO.lst [PV.tup [.int a, .int b]]] ++ [PO.lst []] = h2 at hd2 hp2 st
  rw [slL]
  refine ⟨_, lstOf_new, ?_⟩
  rw [cut2, ex_attr (get_app (get_app hp2)) c_Places hf hg, put_dic (get_app (get_app hd2)) rfl (by show _ < 16777216; omega)]
  have e1 : (([PV.tup [.int a, .int b]] ++ rowV (m s)).take 2) = rowV (((a, b) :: m s).take 2) := by
    unfold rowV; rw [List.map_take]; rfl
  rw [e1]
  have hdl := (List.getElem?_eq_some_iff.mp hd2).1
  refine q _ ((st.trans (Stays.app.trans Stays.app)).trans (Stays.set (List.mem_singleton.mpr rfl))) fun R' hR hN => ⟨_, List.getElem?_set_self (by simp; omega), ?_, fun x => ?_⟩
  · unfold putD
    split
    · rw [List.length_map]; omega
    · rw [List.length_append]; simp; omega
  · rw [look_put]
    by_cases hx : x = s
    · rw [if_pos hx, if_pos hx]
      refine ⟨_, rfl, ?_, hN _ (by have := st.le; simp; omega) (by simp)⟩
      rw [List.getElem?_set_ne (by simp; omega)]
      exact get_new
    · rw [if_neg hx, if_neg hx]
      have hs := hm x
      cases e : lookD (.int x) kvs with
      | none => rw [e] at hs; exact hs
      | some v =>
        rw [e] at hs
        obtain ⟨y, rfl, hy, hz⟩ := hs
        refine ⟨y, rfl, ?_, hR _ hz⟩
        have hyd : y ≠ d := fun z => by rw [z, hd] at hy; cases hy
        rw [List.getElem?_set_ne (Ne.symm hyd)]
        exact get_app (get_app (st.at_ y _ (fun z => hyd (List.mem_singleton.mp z)) hy))
end
/-- rows as they may be -/
def okR (l : List (Int × Int)) : Prop := l = [] ∨ (∃ x, l = [x]) ∨ ∃ x y : Int × Int, l = [x, y] ∧ x.1 ≠ y.1
/-- what is told of a house -/
def found (a : Int) (l : List (Int × Int)) : PV := match l.find? fun p => decide (p.1 = a) with
  | some p => .int p.2
  | none => .non
/-- the row behind it -/
def front (a : Int) (l : List (Int × Int)) : List (Int × Int) := l.filter (fun p => decide (p.1 = a)) ++ l.filter fun p => !decide (p.1 = a)
section
variable {R : Nat → Prop} {k n : Nat} {h : PH} {p d : Nat} {m : Int → List (Int × Int)} {s : Int} {Q : KQ} {X : KX}
theorem s_asked {a : Int} (hp : h[p]? = some (.ins n_Places [(n_pairs, .ref d)])) (D : Dic R n h d m) (hn : n < 1000000) (hr : okR (m s))
    (q : ∀ h', Stays [d] h h' → (∀ R' : Nat → Prop, (∀ a, R a → R' a) → (∀ a, h.length ≤ a → a < h'.length → R' a) → Dic R' (n + 1) h' d (fun x => if x = s then front a (m s) else m x)) → Q (found a (m s)) h') : callS sgT (k + 1) (.fn n_Places_asked) [.ref p, .int s, .int a] h Q X := by
  obtain ⟨kvs, hd, hl, hm⟩ := D.ex
  have hf : cPlaces.fields.contains n_pairs = true := rfl
  have hg : getN n_pairs [(n_pairs, PV.ref d)] = some (.ref d) := rfl
  rw [call_in (d := d_Places_asked) rfl rfl]
  simp only [evB, evS, evE, evEs, evO, evC, evT, evG, evGs, bAdd, bAddT, bSub, bMulL, bMulR, bDivL, bModL, cLt, cLe, cGt, cGe, cIs, cNot, iT0, iT1, fMin, fMax, fAbs, fLenT, tyT, tyI, tyB, tyS, truB, truI, ex_int, ex_bl, ex_tup, ex_some, ex_cons, eq_self, ex_var, eq_int, ne_int, eq_lit, ne_lit, startL, List.map_cons, List.map_nil, List.cons_append, List.nil_append, List.length_cons, List.length_nil, List.replicate, List.getElem?_cons_zero, List.getElem?_cons_succ, List.set_cons_zero, List.set_cons_succ, lenTs, Int.reduceToNat, Int.reducePow, Int.reduceSub, Int.reduceAdd, Int.reduceMul, Int.reduceNeg, Int.reduceLT, Int.reduceLE, Int.reduceEq, Nat.reduceLT, Nat.reduceLeDiff, Nat.reduceAdd, Nat.reduceSub, Nat.reducePow, bPowL, SZ, tyOf, evI, items_ref, items_tup, live_ref, live_tup, lstOf_new, true_and, and_true, ne_eq, not_true_eq_false, not_false_eq_true, Int.cast_ofNat_Int, decide_eq_true_eq, if_true, if_false, ite_true, ite_false, List.nil_append, isB, String.reduceBEq, String.reduceEq, decide_true, decide_false, Bool.false_eq_true, Bool.or_false, Bool.and_false, Bool.or_true, Bool.and_true, Bool.true_and, Bool.false_and, Bool.not_true, Bool.not_false, ite_true, ite_false, reduceIte, Bool.true_or, Bool.false_or, gt_iff_lt, ge_iff_le, iM1, iM1', iM2, cut_last, cut_last2, slT, fTupL, fTupT, fListL, fInt, fIntB, wipe0, wipe1, tNs, tsNs, inT, isBl, notBl, List.all_cons, List.all_nil, List.any_cons, List.any_nil, flP, eqP, isBlB, notRef, lit_beq, List.append_nil, List.not_mem_nil, isNonB, Int.neg_neg, Int.reduceNegSucc, d_Places_asked, b_Places_asked, ex_attr hp c_Places hf hg, ty_dic hd]
  rw [ex_dget (get_app hd) rfl]
  have row : ∃ r, (lookD (.int s) kvs).getD (.ref h.length) = .ref r ∧ (h ++ [PO.lst []])[r]? = some (.lst (rowV (m s))) ∧ r ≠ d := by
    have hs := hm s
    have hdl := (List.getElem?_eq_some_iff.mp hd).1
    cases e : lookD (.int s) kvs with
    | none =>
      rw [e] at hs
      have hs : m s = [] := hs
      rw [hs]
      exact ⟨_, rfl, get_new, by omega⟩
    | some v =>
      rw [e] at hs
      obtain ⟨r, rfl, hr, hz⟩ := hs
      exact ⟨r, rfl, get_app hr, fun z => by rw [z, hd] at hr; cases hr⟩
  obtain ⟨r, er, hrow, hrd⟩ := row
  rw [er]
  simp only [evB, evS, evE, evEs, evO, evC, evT, evG, evGs, bAdd, bAddT, bSub, bMulL, bMulR, bDivL, bModL, cLt, cLe, cGt, cGe, cIs, cNot, iT0, iT1, fMin, fMax, fAbs, fLenT, tyT, tyI, tyB, tyS, truB, truI, ex_int, ex_bl, ex_tup, ex_some, ex_cons, eq_self, ex_var, eq_int, ne_int, eq_lit, ne_lit, startL, List.map_cons, List.map_nil, List.cons_append, List.nil_append, List.length_cons, List.length_nil, List.replicate, List.getElem?_cons_zero, List.getElem?_cons_succ, List.set_cons_zero, List.set_cons_succ, lenTs, Int.reduceToNat, Int.reducePow, Int.reduceSub, Int.reduceAdd, Int.reduceMul, Int.reduceNeg, Int.reduceLT, Int.reduceLE, Int.reduceEq, Nat.reduceLT, Nat.reduceLeDiff, Nat.reduceAdd, Nat.reduceSub, Nat.reducePow, bPowL, SZ, tyOf, evI, items_ref, items_tup, live_ref, live_tup, lstOf_new, true_and, and_true, ne_eq, not_true_eq_false, not_false_eq_true, Int.cast_ofNat_Int, decide_eq_true_eq, if_true, if_false, ite_true, ite_false, List.nil_append, isB, String.reduceBEq, String.reduceEq, decide_true, decide_false, Bool.false_eq_true, Bool.or_false, Bool.and_false, Bool.or_true, Bool.and_true, Bool.true_and, Bool.false_and, Bool.not_true, Bool.not_false, ite_true, ite_false, reduceIte, Bool.true_or, Bool.false_or, gt_iff_lt, ge_iff_le, iM1, iM1', iM2, cut_last, cut_last2, slT, fTupL, fTupT, fListL, fInt, fIntB, wipe0, wipe1, tNs, tsNs, inT, isBl, notBl, List.all_cons, List.all_nil, List.any_cons, List.any_nil, flP, eqP, isBlB, notRef, lit_beq, List.append_nil, List.not_mem_nil, isNonB, Int.neg_neg, Int.reduceNegSucc, lst_got hrow]
  have st : Stays [d] h (h ++ [PO.lst []]) := Stays.app
  have hp2 : (h ++ [PO.lst []])[p]? = some (.ins n_Places [(n_pairs, .ref d)]) := get_app hp
  have hd2 : (h ++ [PO.lst []])[d]? = some (.dic kvs) := get_app hd
  have hdl := (List.getElem?_eq_some_iff.mp hd).1
  have same : front a (m s) = m s → Q (found a (m s)) (h ++ [PO.lst []]) := fun e => by
    refine q _ st fun R' hR hN => ⟨kvs, hd2, by omega, fun x => ?_⟩
    have e2 : (if x = s then front a (m s) else m x) = m x := by
      by_cases hx : x = s
      · rw [if_pos hx, e, hx]
      · rw [if_neg hx]
    rw [e2]
    have hs := hm x
    cases e : lookD (.int x) kvs with
    | none => rw [e] at hs; exact hs
    | some v =>
      rw [e] at hs
      obtain ⟨y, rfl, hy, hz⟩ := hs
      exact ⟨y, rfl, get_app hy, hR _ hz⟩
  generalize h ++ [PO.lst []] = h2 at hrow st hp2 hd2 same
  have save : ∀ (pair : PV) (rest : List PV) (b : Int), [pair] ++ rest = rowV (front a (m s)) → found a (m s) = .int b →
      Q (.int b) ((h2 ++ [PO.lst [pair]] ++ [PO.lst rest] ++ [PO.lst ([pair] ++ rest)]).set d (.dic (putD (.int s) (.ref (h2 ++ [PO.lst [pair]] ++ [PO.lst rest]).length) kvs))) := fun pair rest b e ef => by
    rw [← ef]
    have hd2l := (List.getElem?_eq_some_iff.mp hd2).1
    refine q _ ((st.trans (Stays.app.trans (Stays.app.trans Stays.app))).trans (Stays.set (List.mem_singleton.mpr rfl))) fun R' hR hN => ⟨_, List.getElem?_set_self (by simp; omega), ?_, fun x => ?_⟩
    · unfold putD
      split
      · rw [List.length_map]; omega
      · rw [List.length_append]; simp; omega
    · rw [look_put]
      by_cases hx : x = s
      · rw [if_pos hx, if_pos hx]
        refine ⟨_, rfl, ?_, hN _ (by have := st.le; simp; omega) (by simp)⟩
        rw [List.getElem?_set_ne (by simp; omega), ← e]
        exact get_new
      · rw [if_neg hx, if_neg hx]
        have hs := hm x
        cases e : lookD (.int x) kvs with
        | none => rw [e] at hs; exact hs
        | some v =>
          rw [e] at hs
          obtain ⟨y, rfl, hy, hz⟩ := hs
          refine ⟨y, rfl, ?_, hR _ hz⟩
          have hyd : y ≠ d := fun z => by rw [z, hd] at hy; cases hy
          rw [List.getElem?_set_ne (Ne.symm hyd)]
          exact get_app (get_app (get_app (st.at_ y _ (fun z => hyd (List.mem_singleton.mp z)) hy)))
  have okT : ∀ x y : Int, okV (.tup [.int x, .int y]) = true := fun x y => rfl
  rcases hr with e | ⟨x, e⟩ | ⟨x, y, e, ne⟩
  · rw [e] at hrow same save ⊢
    have sm := same rfl
    show liveL _ _ _ ∧ _
    exact ⟨lst_got hrow, sm⟩
  · rw [e] at hrow same save ⊢
    obtain ⟨x1, x2⟩ := x
    have l1 := lst_got hrow
    have l2 : ∀ t, lstOf (h2 ++ t) (.ref r) = some (rowV [(x1, x2)]) := fun t => lstOf_app l1
    show liveL _ _ _ ∧ _
    refine ⟨l1, ?_⟩
    by_cases h1 : x1 = a
    · have e3 : decide (x1 = a) = true := decide_eq_true h1
      simp only [evB, evS, evE, evEs, evO, evC, evT, evG, evGs, bAdd, bAddT, bSub, bMulL, bMulR, bDivL, bModL, cLt, cLe, cGt, cGe, cIs, cNot, iT0, iT1, fMin, fMax, fAbs, fLenT, tyT, tyI, tyB, tyS, truB, truI, ex_int, ex_bl, ex_tup, ex_some, ex_cons, eq_self, ex_var, eq_int, ne_int, eq_lit, ne_lit, startL, List.map_cons, List.map_nil, List.cons_append, List.nil_append, List.length_cons, List.length_nil, List.replicate, List.getElem?_cons_zero, List.getElem?_cons_succ, List.set_cons_zero, List.set_cons_succ, lenTs, Int.reduceToNat, Int.reducePow, Int.reduceSub, Int.reduceAdd, Int.reduceMul, Int.reduceNeg, Int.reduceLT, Int.reduceLE, Int.reduceEq, Nat.reduceLT, Nat.reduceLeDiff, Nat.reduceAdd, Nat.reduceSub, Nat.reducePow, bPowL, SZ, tyOf, evI, items_ref, items_tup, live_ref, live_tup, lstOf_new, true_and, and_true, ne_eq, not_true_eq_false, not_false_eq_true, Int.cast_ofNat_Int, decide_eq_true_eq, if_true, if_false, ite_true, ite_false, List.nil_append, isB, String.reduceBEq, String.reduceEq, decide_true, decide_false, Bool.false_eq_true, Bool.or_false, Bool.and_false, Bool.or_true, Bool.and_true, Bool.true_and, Bool.false_and, Bool.not_true, Bool.not_false, ite_true, ite_false, reduceIte, Bool.true_or, Bool.false_or, gt_iff_lt, ge_iff_le, iM1, iM1', iM2, cut_last, cut_last2, slT, fTupL, fTupT, fListL, fInt, fIntB, wipe0, wipe1, tNs, tsNs, inT, isBl, notBl, List.all_cons, List.all_nil, List.any_cons, List.any_nil, flP, eqP, isBlB, notRef, lit_beq, List.append_nil, List.not_mem_nil, isNonB, Int.neg_neg, Int.reduceNegSucc, e3, rowV, List.map_cons, List.map_nil] at l2 save ⊢
      have l3 : ∀ t u, lstOf (h2 ++ t ++ u) (.ref r) = some [PV.tup [.int x1, .int x2]] := fun t u => lstOf_app (l2 t)
      refine ⟨_, l2 _, ?_⟩
      simp only [evB, evS, evE, evEs, evO, evC, evT, evG, evGs, bAdd, bAddT, bSub, bMulL, bMulR, bDivL, bModL, cLt, cLe, cGt, cGe, cIs, cNot, iT0, iT1, fMin, fMax, fAbs, fLenT, tyT, tyI, tyB, tyS, truB, truI, ex_int, ex_bl, ex_tup, ex_some, ex_cons, eq_self, ex_var, eq_int, ne_int, eq_lit, ne_lit, startL, List.map_cons, List.map_nil, List.cons_append, List.nil_append, List.length_cons, List.length_nil, List.replicate, List.getElem?_cons_zero, List.getElem?_cons_succ, List.set_cons_zero, List.set_cons_succ, lenTs, Int.reduceToNat, Int.reducePow, Int.reduceSub, Int.reduceAdd, Int.reduceMul, Int.reduceNeg, Int.reduceLT, Int.reduceLE, Int.reduceEq, Nat.reduceLT, Nat.reduceLeDiff, Nat.reduceAdd, Nat.reduceSub, Nat.reducePow, bPowL, SZ, tyOf, evI, items_ref, items_tup, live_ref, live_tup, lstOf_new, true_and, and_true, ne_eq, not_true_eq_false, not_false_eq_true, Int.cast_ofNat_Int, decide_eq_true_eq, if_true, if_false, ite_true, ite_false, List.nil_append, isB, String.reduceBEq, String.reduceEq, decide_true, decide_false, Bool.false_eq_true, Bool.or_false, Bool.and_false, Bool.or_true, Bool.and_true, Bool.true_and, Bool.false_and, Bool.not_true, Bool.not_false, ite_true, ite_false, reduceIte, Bool.true_or, Bool.false_or, gt_iff_lt, ge_iff_le, iM1, iM1', iM2, cut_last, cut_last2, slT, fTupL, fTupT, fListL, fInt, fIntB, wipe0, wipe1, tNs, tsNs, inT, isBl, notBl, List.all_cons, List.all_nil, List.any_cons, List.any_nil, flP, eqP, isBlB, notRef, lit_beq, List.append_nil, List.not_mem_nil, isNonB, Int.neg_neg, Int.reduceNegSucc, compL, l3, cmp_ne (okT _ _) (okT _ _), lit_inj, okV, flat, flats, dat, dats, SeqAt.shaped, PyData.canLay0, PyData.canLayAll0, PyData.depth, PyData.depthAll, strOk_lit, PyData.eqv, PyData.eqvAll, lit_beq, bqd, String.reduceEq, String.reduceBEq, decide_true, decide_false, Bool.and_true, Bool.true_and, Bool.and_self, Bool.and_false, Bool.false_and, Nat.max_self, Nat.reduceAdd, Nat.reduceLeDiff, Nat.zero_le, Bool.not_true, Bool.not_false, Nat.zero_max, Nat.max_zero, beq_self_eq_true]
      rw [bAddL]
      refine ⟨_, _, get_app get_new, get_new, by show _ ≤ 16777216; simp, ?_⟩
      rw [ex_attr (get_app (get_app (get_app hp2))) c_Places hf hg, put_dic (get_app (get_app (get_app hd2))) rfl (by show _ < 16777216; omega)]
      exact save _ [] x2 (by simp [front, h1]) (by simp [found, h1])
    · have e3 : decide (x1 = a) = false := decide_eq_false h1
      have sm := same (by simp [front, h1])
      have ef : found a [(x1, x2)] = .non := by simp [found, h1]
      rw [ef] at sm
      simp only [evB, evS, evE, evEs, evO, evC, evT, evG, evGs, bAdd, bAddT, bSub, bMulL, bMulR, bDivL, bModL, cLt, cLe, cGt, cGe, cIs, cNot, iT0, iT1, fMin, fMax, fAbs, fLenT, tyT, tyI, tyB, tyS, truB, truI, ex_int, ex_bl, ex_tup, ex_some, ex_cons, eq_self, ex_var, eq_int, ne_int, eq_lit, ne_lit, startL, List.map_cons, List.map_nil, List.cons_append, List.nil_append, List.length_cons, List.length_nil, List.replicate, List.getElem?_cons_zero, List.getElem?_cons_succ, List.set_cons_zero, List.set_cons_succ, lenTs, Int.reduceToNat, Int.reducePow, Int.reduceSub, Int.reduceAdd, Int.reduceMul, Int.reduceNeg, Int.reduceLT, Int.reduceLE, Int.reduceEq, Nat.reduceLT, Nat.reduceLeDiff, Nat.reduceAdd, Nat.reduceSub, Nat.reducePow, bPowL, SZ, tyOf, evI, items_ref, items_tup, live_ref, live_tup, lstOf_new, true_and, and_true, ne_eq, not_true_eq_false, not_false_eq_true, Int.cast_ofNat_Int, decide_eq_true_eq, if_true, if_false, ite_true, ite_false, List.nil_append, isB, String.reduceBEq, String.reduceEq, decide_true, decide_false, Bool.false_eq_true, Bool.or_false, Bool.and_false, Bool.or_true, Bool.and_true, Bool.true_and, Bool.false_and, Bool.not_true, Bool.not_false, ite_true, ite_false, reduceIte, Bool.true_or, Bool.false_or, gt_iff_lt, ge_iff_le, iM1, iM1', iM2, cut_last, cut_last2, slT, fTupL, fTupT, fListL, fInt, fIntB, wipe0, wipe1, tNs, tsNs, inT, isBl, notBl, List.all_cons, List.all_nil, List.any_cons, List.any_nil, flP, eqP, isBlB, notRef, lit_beq, List.append_nil, List.not_mem_nil, isNonB, Int.neg_neg, Int.reduceNegSucc, e3, iterL]
      exact ⟨l1, sm⟩
  · rw [e] at hrow same save ⊢
    obtain ⟨x1, x2⟩ := x
    obtain ⟨y1, y2⟩ := y
    have ne : x1 ≠ y1 := ne
    have l1 := lst_got hrow
    have l2 : ∀ t, lstOf (h2 ++ t) (.ref r) = some (rowV [(x1, x2), (y1, y2)]) := fun t => lstOf_app l1
    have l3 : ∀ t u, lstOf (h2 ++ t ++ u) (.ref r) = some (rowV [(x1, x2), (y1, y2)]) := fun t u => lstOf_app (l2 t)
    have b1 : (x1 == y1) = false := beq_eq_false_iff_ne.mpr ne
    have b2 : (y1 == x1) = false := beq_eq_false_iff_ne.mpr (Ne.symm ne)
    have d1 : decide (x1 = y1) = false := decide_eq_false ne
    have d2 : decide (y1 = x1) = false := decide_eq_false (Ne.symm ne)
    show liveL _ _ _ ∧ _
    refine ⟨l1, ?_⟩
    by_cases h1 : x1 = a
    · have e3 : decide (x1 = a) = true := decide_eq_true h1
      have e4 : ¬ y1 = a := fun z => ne (h1.trans z.symm)
      simp only [evB, evS, evE, evEs, evO, evC, evT, evG, evGs, bAdd, bAddT, bSub, bMulL, bMulR, bDivL, bModL, cLt, cLe, cGt, cGe, cIs, cNot, iT0, iT1, fMin, fMax, fAbs, fLenT, tyT, tyI, tyB, tyS, truB, truI, ex_int, ex_bl, ex_tup, ex_some, ex_cons, eq_self, ex_var, eq_int, ne_int, eq_lit, ne_lit, startL, List.map_cons, List.map_nil, List.cons_append, List.nil_append, List.length_cons, List.length_nil, List.replicate, List.getElem?_cons_zero, List.getElem?_cons_succ, List.set_cons_zero, List.set_cons_succ, lenTs, Int.reduceToNat, Int.reducePow, Int.reduceSub, Int.reduceAdd, Int.reduceMul, Int.reduceNeg, Int.reduceLT, Int.reduceLE, Int.reduceEq, Nat.reduceLT, Nat.reduceLeDiff, Nat.reduceAdd, Nat.reduceSub, Nat.reducePow, bPowL, SZ, tyOf, evI, items_ref, items_tup, live_ref, live_tup, lstOf_new, true_and, and_true, ne_eq, not_true_eq_false, not_false_eq_true, Int.cast_ofNat_Int, decide_eq_true_eq, if_true, if_false, ite_true, ite_false, List.nil_append, isB, String.reduceBEq, String.reduceEq, decide_true, decide_false, Bool.false_eq_true, Bool.or_false, Bool.and_false, Bool.or_true, Bool.and_true, Bool.true_and, Bool.false_and, Bool.not_true, Bool.not_false, ite_true, ite_false, reduceIte, Bool.true_or, Bool.false_or, gt_iff_lt, ge_iff_le, iM1, iM1', iM2, cut_last, cut_last2, slT, fTupL, fTupT, fListL, fInt, fIntB, wipe0, wipe1, tNs, tsNs, inT, isBl, notBl, List.all_cons, List.all_nil, List.any_cons, List.any_nil, flP, eqP, isBlB, notRef, lit_beq, List.append_nil, List.not_mem_nil, isNonB, Int.neg_neg, Int.reduceNegSucc, e3, rowV, List.map_cons, List.map_nil] at l2 l3 save ⊢
      refine ⟨_, l2 _, ?_⟩
      simp only [evB, evS, evE, evEs, evO, evC, evT, evG, evGs, bAdd, bAddT, bSub, bMulL, bMulR, bDivL, bModL, cLt, cLe, cGt, cGe, cIs, cNot, iT0, iT1, fMin, fMax, fAbs, fLenT, tyT, tyI, tyB, tyS, truB, truI, ex_int, ex_bl, ex_tup, ex_some, ex_cons, eq_self, ex_var, eq_int, ne_int, eq_lit, ne_lit, startL, List.map_cons, List.map_nil, List.cons_append, List.nil_append, List.length_cons, List.length_nil, List.replicate, List.getElem?_cons_zero, List.getElem?_cons_succ, List.set_cons_zero, List.set_cons_succ, lenTs, Int.reduceToNat, Int.reducePow, Int.reduceSub, Int.reduceAdd, Int.reduceMul, Int.reduceNeg, Int.reduceLT, Int.reduceLE, Int.reduceEq, Nat.reduceLT, Nat.reduceLeDiff, Nat.reduceAdd, Nat.reduceSub, Nat.reducePow, bPowL, SZ, tyOf, evI, items_ref, items_tup, live_ref, live_tup, lstOf_new, true_and, and_true, ne_eq, not_true_eq_false, not_false_eq_true, Int.cast_ofNat_Int, decide_eq_true_eq, if_true, if_false, ite_true, ite_false, List.nil_append, isB, String.reduceBEq, String.reduceEq, decide_true, decide_false, Bool.false_eq_true, Bool.or_false, Bool.and_false, Bool.or_true, Bool.and_true, Bool.true_and, Bool.false_and, Bool.not_true, Bool.not_false, ite_true, ite_false, reduceIte, Bool.true_or, Bool.false_or, gt_iff_lt, ge_iff_le, iM1, iM1', iM2, cut_last, cut_last2, slT, fTupL, fTupT, fListL, fInt, fIntB, wipe0, wipe1, tNs, tsNs, inT, isBl, notBl, List.all_cons, List.all_nil, List.any_cons, List.any_nil, flP, eqP, isBlB, notRef, lit_beq, List.append_nil, List.not_mem_nil, isNonB, Int.neg_neg, Int.reduceNegSucc, compL, l3, cmp_ne (okT _ _) (okT _ _), lit_inj, okV, flat, flats, dat, dats, SeqAt.shaped, PyData.canLay0, PyData.canLayAll0, PyData.depth, PyData.depthAll, strOk_lit, PyData.eqv, PyData.eqvAll, lit_beq, bqd, String.reduceEq, String.reduceBEq, decide_true, decide_false, Bool.and_true, Bool.true_and, Bool.and_self, Bool.and_false, Bool.false_and, Nat.max_self, Nat.reduceAdd, Nat.reduceLeDiff, Nat.zero_le, Bool.not_true, Bool.not_false, Nat.zero_max, Nat.max_zero, beq_self_eq_true, d1, d2, get_new, set_new, ex_lst, Nat.reduceLT]
      rw [bAddL]
      refine ⟨_, _, get_app get_new, get_new, by show _ ≤ 16777216; simp, ?_⟩
      rw [ex_attr (get_app (get_app (get_app hp2))) c_Places hf hg, put_dic (get_app (get_app (get_app hd2))) rfl (by show _ < 16777216; omega)]
      exact save _ [_] x2 (by simp [front, h1, e4]) (by simp [found, h1])
    · have e3 : decide (x1 = a) = false := decide_eq_false h1
      simp only [evB, evS, evE, evEs, evO, evC, evT, evG, evGs, bAdd, bAddT, bSub, bMulL, bMulR, bDivL, bModL, cLt, cLe, cGt, cGe, cIs, cNot, iT0, iT1, fMin, fMax, fAbs, fLenT, tyT, tyI, tyB, tyS, truB, truI, ex_int, ex_bl, ex_tup, ex_some, ex_cons, eq_self, ex_var, eq_int, ne_int, eq_lit, ne_lit, startL, List.map_cons, List.map_nil, List.cons_append, List.nil_append, List.length_cons, List.length_nil, List.replicate, List.getElem?_cons_zero, List.getElem?_cons_succ, List.set_cons_zero, List.set_cons_succ, lenTs, Int.reduceToNat, Int.reducePow, Int.reduceSub, Int.reduceAdd, Int.reduceMul, Int.reduceNeg, Int.reduceLT, Int.reduceLE, Int.reduceEq, Nat.reduceLT, Nat.reduceLeDiff, Nat.reduceAdd, Nat.reduceSub, Nat.reducePow, bPowL, SZ, tyOf, evI, items_ref, items_tup, live_ref, live_tup, lstOf_new, true_and, and_true, ne_eq, not_true_eq_false, not_false_eq_true, Int.cast_ofNat_Int, decide_eq_true_eq, if_true, if_false, ite_true, ite_false, List.nil_append, isB, String.reduceBEq, String.reduceEq, decide_true, decide_false, Bool.false_eq_true, Bool.or_false, Bool.and_false, Bool.or_true, Bool.and_true, Bool.true_and, Bool.false_and, Bool.not_true, Bool.not_false, ite_true, ite_false, reduceIte, Bool.true_or, Bool.false_or, gt_iff_lt, ge_iff_le, iM1, iM1', iM2, cut_last, cut_last2, slT, fTupL, fTupT, fListL, fInt, fIntB, wipe0, wipe1, tNs, tsNs, inT, isBl, notBl, List.all_cons, List.all_nil, List.any_cons, List.any_nil, flP, eqP, isBlB, notRef, lit_beq, List.append_nil, List.not_mem_nil, isNonB, Int.neg_neg, Int.reduceNegSucc, e3, iterL]
      refine ⟨l1, ?_⟩
      by_cases h3 : y1 = a
      · have e4 : decide (y1 = a) = true := decide_eq_true h3
        rw [if_pos h3]
        simp only [rowV, List.map_cons, List.map_nil] at l2 l3 save
        refine ⟨_, l2 _, ?_⟩
        simp only [evB, evS, evE, evEs, evO, evC, evT, evG, evGs, bAdd, bAddT, bSub, bMulL, bMulR, bDivL, bModL, cLt, cLe, cGt, cGe, cIs, cNot, iT0, iT1, fMin, fMax, fAbs, fLenT, tyT, tyI, tyB, tyS, truB, truI, ex_int, ex_bl, ex_tup, ex_some, ex_cons, eq_self, ex_var, eq_int, ne_int, eq_lit, ne_lit, startL, List.map_cons, List.map_nil, List.cons_append, List.nil_append, List.length_cons, List.length_nil, List.replicate, List.getElem?_cons_zero, List.getElem?_cons_succ, List.set_cons_zero, List.set_cons_succ, lenTs, Int.reduceToNat, Int.reducePow, Int.reduceSub, Int.reduceAdd, Int.reduceMul, Int.reduceNeg, Int.reduceLT, Int.reduceLE, Int.reduceEq, Nat.reduceLT, Nat.reduceLeDiff, Nat.reduceAdd, Nat.reduceSub, Nat.reducePow, bPowL, SZ, tyOf, evI, items_ref, items_tup, live_ref, live_tup, lstOf_new, true_and, and_true, ne_eq, not_true_eq_false, not_false_eq_true, Int.cast_ofNat_Int, decide_eq_true_eq, if_true, if_false, ite_true, ite_false, List.nil_append, isB, String.reduceBEq, String.reduceEq, decide_true, decide_false, Bool.false_eq_true, Bool.or_false, Bool.and_false, Bool.or_true, Bool.and_true, Bool.true_and, Bool.false_and, Bool.not_true, Bool.not_false, ite_true, ite_false, reduceIte, Bool.true_or, Bool.false_or, gt_iff_lt, ge_iff_le, iM1, iM1', iM2, cut_last, cut_last2, slT, fTupL, fTupT, fListL, fInt, fIntB, wipe0, wipe1, tNs, tsNs, inT, isBl, notBl, List.all_cons, List.all_nil, List.any_cons, List.any_nil, flP, eqP, isBlB, notRef, lit_beq, List.append_nil, List.not_mem_nil, isNonB, Int.neg_neg, Int.reduceNegSucc, compL, l3, cmp_ne (okT _ _) (okT _ _), lit_inj, okV, flat, flats, dat, dats, SeqAt.shaped, PyData.canLay0, PyData.canLayAll0, PyData.depth, PyData.depthAll, strOk_lit, PyData.eqv, PyData.eqvAll, lit_beq, bqd, String.reduceEq, String.reduceBEq, decide_true, decide_false, Bool.and_true, Bool.true_and, Bool.and_self, Bool.and_false, Bool.false_and, Nat.max_self, Nat.reduceAdd, Nat.reduceLeDiff, Nat.zero_le, Bool.not_true, Bool.not_false, Nat.zero_max, Nat.max_zero, beq_self_eq_true, d1, d2, get_new, set_new, ex_lst, Nat.reduceLT]
        rw [bAddL]
        refine ⟨_, _, get_app get_new, get_new, by show _ ≤ 16777216; simp, ?_⟩
        rw [ex_attr (get_app (get_app (get_app hp2))) c_Places hf hg, put_dic (get_app (get_app (get_app hd2))) rfl (by show _ < 16777216; omega)]
        exact save _ [_] y2 (by simp [front, h1, h3]) (by simp [found, h1, h3])
      · have e4 : decide (y1 = a) = false := decide_eq_false h3
        have sm := same (by simp [front, h1, h3])
        have ef : found a [(x1, x2), (y1, y2)] = .non := by simp [found, h1, h3]
        rw [ef] at sm
        rw [if_neg h3]
        exact ⟨l1, sm⟩
end
theorem okR_front {a : Int} {l : List (Int × Int)} (h : okR l) : okR (front a l) := by
  rcases h with rfl | ⟨x, rfl⟩ | ⟨x, y, rfl, ne⟩
  · exact .inl rfl
  · by_cases h1 : x.1 = a
    · exact .inr (.inl ⟨x, by simp [front, h1]⟩)
    · exact .inr (.inl ⟨x, by simp [front, h1]⟩)
  · by_cases h1 : x.1 = a
    · have h2 : ¬ y.1 = a := fun z => ne (h1.trans z.symm)
      exact .inr (.inr ⟨x, y, by simp [front, h1, h2], ne⟩)
    · by_cases h2 : y.1 = a
      · exact .inr (.inr ⟨y, x, by simp [front, h1, h2], Ne.symm ne⟩)
      · exact .inr (.inr ⟨x, y, by simp [front, h1, h2], ne⟩)
theorem okR_put {a b : Int} {l : List (Int × Int)} (h : okR l) (n : found a l = .non) : okR (((a, b) :: l).take 2) := by
  rcases h with rfl | ⟨x, rfl⟩ | ⟨x, y, rfl, ne⟩
  · exact .inr (.inl ⟨_, rfl⟩)
  · refine .inr (.inr ⟨_, x, rfl, fun z => ?_⟩)
    have z : a = x.1 := z
    simp [found, ← z] at n
  · refine .inr (.inr ⟨_, x, rfl, fun z => ?_⟩)
    have z : a = x.1 := z
    simp [found, ← z] at n
theorem okR_len {l : List (Int × Int)} (h : okR l) : l.length ≤ 2 := by
  rcases h with rfl | ⟨x, rfl⟩ | ⟨x, y, rfl, ne⟩ <;> simp
end Py

set_option Elab.async false
set_option linter.all false
set_option maxRecDepth 100000
set_option maxHeartbeats 4000000
/-! Rows that a frame does by itself, over the reading. -/
namespace Py
open PySem
theorem Dic.stay {R : Nat → Prop} {D : List Nat} {h h' : PH} {n o : Nat} {m : Int → List (Int × Int)} (s : Stays D h h') (D1 : Dic R n h o m) (no : o ∉ D) (nl : ∀ a, R a → a ∉ D) : Dic R n h' o m := by
  obtain ⟨kvs, hd, hl, hm⟩ := D1.ex
  refine ⟨kvs, s.at_ _ _ no hd, hl, fun x => ?_⟩
  have hs := hm x
  cases e : lookD (.int x) kvs with
  | none => rw [e] at hs; exact hs
  | some v =>
    rw [e] at hs
    obtain ⟨y, rfl, hy, hr⟩ := hs
    exact ⟨y, rfl, s.at_ _ _ (nl y hr) hy, hr⟩
theorem Dic.more {R R' : Nat → Prop} {h : PH} {n n' o : Nat} {m : Int → List (Int × Int)} (D : Dic R n h o m) (l : n ≤ n') (w : ∀ a, R a → R' a) : Dic R' n' h o m := by
  obtain ⟨kvs, hd, hl, hm⟩ := D.ex
  refine ⟨kvs, hd, Nat.le_trans hl l, fun x => ?_⟩
  have hs := hm x
  cases e : lookD (.int x) kvs with
  | none => rw [e] at hs; exact hs
  | some v =>
    rw [e] at hs
    obtain ⟨y, rfl, hy, hr⟩ := hs
    exact ⟨y, rfl, hy, w y hr⟩
theorem q0 {Q : KQ} {v : PV} {h : PH} (q : ∀ t, Q v (h ++ t)) : Q v h := by have := q []; rwa [List.append_nil] at this
def wthn (n : Int) : PV := if n < -1000000000000000 then .tup [.str "refused", .str "great"] else if 1000000000000000 < n then .tup [.str "refused", .str "great"] else .tup [.str "value", .int n]
theorem e_within {k : Nat} {n : Int} {h : PH} {Q : KQ} {X : KX} : callS sgT (k + 1) (.fn n_within) [.int n] h Q X = Q (wthn n) h := by
  rw [call_in (d := d_within) rfl rfl]
  simp only [evB, evS, evE, evEs, evO, evC, evT, evG, evGs, bAdd, bAddT, bSub, bMulL, bMulR, bDivL, bModL, cLt, cLe, cGt, cGe, cIs, cNot, iT0, iT1, fMin, fMax, fAbs, fLenT, tyT, tyI, tyB, tyS, truB, truI, ex_int, ex_bl, ex_tup, ex_some, ex_cons, eq_self, ex_var, eq_int, ne_int, eq_lit, ne_lit, startL, List.map_cons, List.map_nil, List.cons_append, List.nil_append, List.length_cons, List.length_nil, List.replicate, List.getElem?_cons_zero, List.getElem?_cons_succ, List.set_cons_zero, List.set_cons_succ, lenTs, Int.reduceToNat, Int.reducePow, Int.reduceSub, Int.reduceAdd, Int.reduceMul, Int.reduceNeg, Int.reduceLT, Int.reduceLE, Int.reduceEq, Nat.reduceLT, Nat.reduceLeDiff, Nat.reduceAdd, Nat.reduceSub, Nat.reducePow, bPowL, SZ, tyOf, evI, items_ref, items_tup, live_ref, live_tup, lstOf_new, true_and, and_true, ne_eq, not_true_eq_false, not_false_eq_true, Int.cast_ofNat_Int, decide_eq_true_eq, if_true, if_false, ite_true, ite_false, List.nil_append, isB, String.reduceBEq, String.reduceEq, decide_true, decide_false, Bool.false_eq_true, Bool.or_false, Bool.and_false, Bool.or_true, Bool.and_true, Bool.true_and, Bool.false_and, Bool.not_true, Bool.not_false, ite_true, ite_false, reduceIte, Bool.true_or, Bool.false_or, gt_iff_lt, ge_iff_le, d_within, b_within, sgT, conT, getN]
  unfold wthn
  split
  · rfl
  · split <;> rfl
theorem k_SIGNS : sgT.con n_SIGNS = some (.tup [.tup [.str "add", .str "+"], .tup [.str "sub", .str "-"], .tup [.str "mul", .str "*"], .tup [.str "div", .str "/"], .tup [.str "less", .str "<"]]) := rfl
/-- what a word of two tells -/
def twoV : String → Int → Int → PV
  | "add", a, b => wthn (a + b)
  | "sub", a, b => wthn (a - b)
  | "mul", a, b => wthn (a * b)
  | "div", a, b => if b = 0 then .tup [.str "refused", .str "nought"] else wthn (a.fdiv b)
  | "less", a, b => .tup [.str "value", .bl (decide (a < b))]
  | _, _, _ => .non
def signOf : String → String
  | "add" => "+"
  | "sub" => "-"
  | "mul" => "*"
  | "div" => "/"
  | _ => "<"
def fit (n : Int) : Prop := -1000000000000000 ≤ n ∧ n ≤ 1000000000000000
instance (n : Int) : Decidable (fit n) := inferInstanceAs (Decidable (_ ∧ _))
def isTwo (w : String) : Prop := w = "add" ∨ w = "sub" ∨ w = "mul" ∨ w = "div" ∨ w = "less"
theorem e_told {k : Nat} {w : String} {a b : Int} {h : PH} {Q : KQ} {X : KX} (hw : isTwo w) (ha : fit a) (hb : fit b) (q : Q (twoV w a b) h) : callS sgT (k + 2) (.fn n_two_told) [.str (Str.ofString (signOf w)), .int a, .int b] h Q X := by
  obtain ⟨b0, b1⟩ := hb
  rw [call_in (d := d_two_told) rfl rfl]
  rcases hw with rfl | rfl | rfl | rfl | rfl <;> simp only [signOf, evB, evS, evE, evEs, evO, evC, evT, evG, evGs, bAdd, bAddT, bSub, bMulL, bMulR, bDivL, bModL, cLt, cLe, cGt, cGe, cIs, cNot, iT0, iT1, fMin, fMax, fAbs, fLenT, tyT, tyI, tyB, tyS, truB, truI, ex_int, ex_bl, ex_tup, ex_some, ex_cons, eq_self, ex_var, eq_int, ne_int, eq_lit, ne_lit, startL, List.map_cons, List.map_nil, List.cons_append, List.nil_append, List.length_cons, List.length_nil, List.replicate, List.getElem?_cons_zero, List.getElem?_cons_succ, List.set_cons_zero, List.set_cons_succ, lenTs, Int.reduceToNat, Int.reducePow, Int.reduceSub, Int.reduceAdd, Int.reduceMul, Int.reduceNeg, Int.reduceLT, Int.reduceLE, Int.reduceEq, Nat.reduceLT, Nat.reduceLeDiff, Nat.reduceAdd, Nat.reduceSub, Nat.reducePow, bPowL, SZ, tyOf, evI, items_ref, items_tup, live_ref, live_tup, lstOf_new, true_and, and_true, ne_eq, not_true_eq_false, not_false_eq_true, Int.cast_ofNat_Int, decide_eq_true_eq, if_true, if_false, ite_true, ite_false, List.nil_append, isB, String.reduceBEq, String.reduceEq, decide_true, decide_false, Bool.false_eq_true, Bool.or_false, Bool.and_false, Bool.or_true, Bool.and_true, Bool.true_and, Bool.false_and, Bool.not_true, Bool.not_false, ite_true, ite_false, reduceIte, Bool.true_or, Bool.false_or, gt_iff_lt, ge_iff_le, d_two_told, b_two_told, e_within]
  · exact q
  · exact q
  · rw [bMulOk (by omega)]
    simp only [evB, evS, evE, evEs, evO, evC, evT, evG, evGs, bAdd, bAddT, bSub, bMulL, bMulR, bDivL, bModL, cLt, cLe, cGt, cGe, cIs, cNot, iT0, iT1, fMin, fMax, fAbs, fLenT, tyT, tyI, tyB, tyS, truB, truI, ex_int, ex_bl, ex_tup, ex_some, ex_cons, eq_self, ex_var, eq_int, ne_int, eq_lit, ne_lit, startL, List.map_cons, List.map_nil, List.cons_append, List.nil_append, List.length_cons, List.length_nil, List.replicate, List.getElem?_cons_zero, List.getElem?_cons_succ, List.set_cons_zero, List.set_cons_succ, lenTs, Int.reduceToNat, Int.reducePow, Int.reduceSub, Int.reduceAdd, Int.reduceMul, Int.reduceNeg, Int.reduceLT, Int.reduceLE, Int.reduceEq, Nat.reduceLT, Nat.reduceLeDiff, Nat.reduceAdd, Nat.reduceSub, Nat.reducePow, bPowL, SZ, tyOf, evI, items_ref, items_tup, live_ref, live_tup, lstOf_new, true_and, and_true, ne_eq, not_true_eq_false, not_false_eq_true, Int.cast_ofNat_Int, decide_eq_true_eq, if_true, if_false, ite_true, ite_false, List.nil_append, isB, String.reduceBEq, String.reduceEq, decide_true, decide_false, Bool.false_eq_true, Bool.or_false, Bool.and_false, Bool.or_true, Bool.and_true, Bool.true_and, Bool.false_and, Bool.not_true, Bool.not_false, ite_true, ite_false, reduceIte, Bool.true_or, Bool.false_or, gt_iff_lt, ge_iff_le, e_within]
    exact q
  · have q : Q (if b = 0 then .tup [.str "refused", .str "nought"] else wthn (a.fdiv b)) h := q
    split
    · rename_i e; rw [if_pos e] at q; exact q
    · rename_i e; rw [if_neg e] at q
      rw [bDiv]
      have : b.natAbs.log2 < 64 := (Nat.log2_lt (by omega)).mpr (by omega)
      refine ⟨e, by omega, ?_⟩
      rw [e_within]; exact q
  · exact q
theorem s_two_done {k : Nat} {w : String} {a b : Int} {h : PH} {Q : KQ} {X : KX} (hw : isTwo w) (ha : fit a) (hb : fit b) (q : Q (twoV w a b) (h ++ [.lst [.str (Str.ofString (signOf w))]])) :
    callS sgT (k + 3) (.fn n_two_done) [.str (Str.ofString w), .int a, .int b] h Q X := by
  rw [call_in (d := d_two_done) rfl rfl]
  rcases hw with rfl | rfl | rfl | rfl | rfl <;> simp only [evB, evS, evE, evEs, evO, evC, evT, evG, evGs, bAdd, bAddT, bSub, bMulL, bMulR, bDivL, bModL, cLt, cLe, cGt, cGe, cIs, cNot, iT0, iT1, fMin, fMax, fAbs, fLenT, tyT, tyI, tyB, tyS, truB, truI, ex_int, ex_bl, ex_tup, ex_some, ex_cons, eq_self, ex_var, eq_int, ne_int, eq_lit, ne_lit, startL, List.map_cons, List.map_nil, List.cons_append, List.nil_append, List.length_cons, List.length_nil, List.replicate, List.getElem?_cons_zero, List.getElem?_cons_succ, List.set_cons_zero, List.set_cons_succ, lenTs, Int.reduceToNat, Int.reducePow, Int.reduceSub, Int.reduceAdd, Int.reduceMul, Int.reduceNeg, Int.reduceLT, Int.reduceLE, Int.reduceEq, Nat.reduceLT, Nat.reduceLeDiff, Nat.reduceAdd, Nat.reduceSub, Nat.reducePow, bPowL, SZ, tyOf, evI, items_ref, items_tup, live_ref, live_tup, lstOf_new, true_and, and_true, ne_eq, not_true_eq_false, not_false_eq_true, Int.cast_ofNat_Int, decide_eq_true_eq, if_true, if_false, ite_true, ite_false, List.nil_append, isB, String.reduceBEq, String.reduceEq, decide_true, decide_false, Bool.false_eq_true, Bool.or_false, Bool.and_false, Bool.or_true, Bool.and_true, Bool.true_and, Bool.false_and, Bool.not_true, Bool.not_false, ite_true, ite_false, reduceIte, Bool.true_or, Bool.false_or, gt_iff_lt, ge_iff_le, iM1, iM1', iM2, cut_last, cut_last2, slT, fTupL, fTupT, fListL, fInt, fIntB, wipe0, wipe1, tNs, tsNs, inT, isBl, notBl, List.all_cons, List.all_nil, List.any_cons, List.any_nil, flP, eqP, isBlB, notRef, lit_beq, List.append_nil, List.not_mem_nil, isNonB, Int.neg_neg, Int.reduceNegSucc, d_two_done, b_two_done, k_SIGNS, compL, get_new, set_new, ex_lst, Nat.reduceLT]
  all_goals
    rw [iL0 (lstOf_new (h := h))]
    exact e_told (by unfold isTwo; simp) ha hb q
def frV (n a : Int) (sl st : List PV) : PV := .tup [.int n, .int a, .tup sl, .tup st]
/-- own_done tells this -/
def Own (row f : PV) (ths : List PV) (f' r : PV) : Prop := ∀ (k a : Nat) (h : PH) (Q : KQ) (X : KX), lstOf h (.ref a) = some ths → (∀ t, Q (.tup [f', r]) (h ++ t)) → callS sgT (k + 4) (.fn n_own_done) [row, f, .ref a] h Q X
theorem cut_to {α : Type} {xs : List α} {j : Nat} (h : j ≤ xs.length) : cut xs none (some (j : Int)) = xs.take j := by
  unfold cut sIx
  dsimp only
  rw [if_neg (by omega)]
  simp [Nat.min_eq_left h]
theorem cut_from {α : Type} {xs : List α} {j : Nat} (h : j < xs.length) : cut xs (some ((j : Int) + 1)) none = xs.drop (j + 1) := by
  unfold cut sIx
  dsimp only
  rw [if_neg (by omega)]
  have e : min ((j : Int) + 1).toNat xs.length = j + 1 := by omega
  rw [e, List.take_of_length_le (by simp)]
section
variable {k : Nat} {h : PH} {Q : KQ} {X : KX}
theorem c_stack {r s t th : PV} : callS sgT (k + 1) (.fn n_stack_behind) [r, s, t, th] h Q X = evB sgT (callS sgT k) b_stack_behind (startL d_stack_behind [r, s, t, th]) h ⟨fun _ h' => Q .non h', Q, fun _ _ => False, fun x _ h' => X x h'⟩ := call_in (d := d_stack_behind) rfl rfl
theorem c_gone {r s : PV} : callS sgT (k + 1) (.fn n_gone_on) [r, s] h Q X = evB sgT (callS sgT k) b_gone_on (startL d_gone_on [r, s]) h ⟨fun _ h' => Q .non h', Q, fun _ _ => False, fun x _ h' => X x h'⟩ := call_in (d := d_gone_on) rfl rfl
theorem c_done {r s t : PV} : callS sgT (k + 1) (.fn n_two_done) [r, s, t] h Q X = evB sgT (callS sgT k) b_two_done (startL d_two_done [r, s, t]) h ⟨fun _ h' => Q .non h', Q, fun _ _ => False, fun x _ h' => X x h'⟩ := call_in (d := d_two_done) rfl rfl
end
section
variable {n a : Int} {sl st ths : List PV}
theorem own_two {w : String} {x y : Int} {v : PV} (h1 : st.length ≤ 1000) (hw : isTwo w) (hx : fit x) (hy : fit y) (e : twoV w x y = .tup [.str "value", v]) : Own (.tup [.str (Str.ofString w)]) (frV n a sl (st ++ [.int x, .int y])) ths (frV n (a + 1) sl (st ++ [v])) .non := by
  intro k b h Q X hl q
  have h1 : st.length ≤ 16777215 := by omega
  rw [call_in (d := d_own_done) rfl rfl]
  unfold frV at q ⊢
  have hw' := hw
  rcases hw with rfl | rfl | rfl | rfl | rfl <;> simp only [evB, evS, evE, evEs, evO, evC, evT, evG, evGs, bAdd, bAddT, bSub, bMulL, bMulR, bDivL, bModL, cLt, cLe, cGt, cGe, cIs, cNot, iT0, iT1, fMin, fMax, fAbs, fLenT, tyT, tyI, tyB, tyS, truB, truI, ex_int, ex_bl, ex_tup, ex_some, ex_cons, eq_self, ex_var, eq_int, ne_int, eq_lit, ne_lit, startL, List.map_cons, List.map_nil, List.cons_append, List.nil_append, List.length_cons, List.length_nil, List.replicate, List.getElem?_cons_zero, List.getElem?_cons_succ, List.set_cons_zero, List.set_cons_succ, lenTs, Int.reduceToNat, Int.reducePow, Int.reduceSub, Int.reduceAdd, Int.reduceMul, Int.reduceNeg, Int.reduceLT, Int.reduceLE, Int.reduceEq, Nat.reduceLT, Nat.reduceLeDiff, Nat.reduceAdd, Nat.reduceSub, Nat.reducePow, bPowL, SZ, tyOf, evI, items_ref, items_tup, live_ref, live_tup, lstOf_new, true_and, and_true, ne_eq, not_true_eq_false, not_false_eq_true, Int.cast_ofNat_Int, decide_eq_true_eq, if_true, if_false, ite_true, ite_false, List.nil_append, isB, String.reduceBEq, String.reduceEq, decide_true, decide_false, Bool.false_eq_true, Bool.or_false, Bool.and_false, Bool.or_true, Bool.and_true, Bool.true_and, Bool.false_and, Bool.not_true, Bool.not_false, ite_true, ite_false, reduceIte, Bool.true_or, Bool.false_or, gt_iff_lt, ge_iff_le, iM1, iM1', iM2, cut_last, cut_last2, slT, fTupL, fTupT, fListL, fInt, fIntB, wipe0, wipe1, tNs, tsNs, inT, isBl, notBl, List.all_cons, List.all_nil, List.any_cons, List.any_nil, flP, eqP, isBlB, notRef, lit_beq, List.append_nil, List.not_mem_nil, isNonB, Int.neg_neg, Int.reduceNegSucc, d_own_done, b_own_done]
  all_goals
    refine s_two_done hw' hx hy ?_
    rw [e]
    simp only [evB, evS, evE, evEs, evO, evC, evT, evG, evGs, bAdd, bAddT, bSub, bMulL, bMulR, bDivL, bModL, cLt, cLe, cGt, cGe, cIs, cNot, iT0, iT1, fMin, fMax, fAbs, fLenT, tyT, tyI, tyB, tyS, truB, truI, ex_int, ex_bl, ex_tup, ex_some, ex_cons, eq_self, ex_var, eq_int, ne_int, eq_lit, ne_lit, startL, List.map_cons, List.map_nil, List.cons_append, List.nil_append, List.length_cons, List.length_nil, List.replicate, List.getElem?_cons_zero, List.getElem?_cons_succ, List.set_cons_zero, List.set_cons_succ, lenTs, Int.reduceToNat, Int.reducePow, Int.reduceSub, Int.reduceAdd, Int.reduceMul, Int.reduceNeg, Int.reduceLT, Int.reduceLE, Int.reduceEq, Nat.reduceLT, Nat.reduceLeDiff, Nat.reduceAdd, Nat.reduceSub, Nat.reducePow, bPowL, SZ, tyOf, evI, items_ref, items_tup, live_ref, live_tup, lstOf_new, true_and, and_true, ne_eq, not_true_eq_false, not_false_eq_true, Int.cast_ofNat_Int, decide_eq_true_eq, if_true, if_false, ite_true, ite_false, List.nil_append, isB, String.reduceBEq, String.reduceEq, decide_true, decide_false, Bool.false_eq_true, Bool.or_false, Bool.and_false, Bool.or_true, Bool.and_true, Bool.true_and, Bool.false_and, Bool.not_true, Bool.not_false, ite_true, ite_false, reduceIte, Bool.true_or, Bool.false_or, gt_iff_lt, ge_iff_le, iM1, iM1', iM2, cut_last, cut_last2, slT, fTupL, fTupT, fListL, fInt, fIntB, wipe0, wipe1, tNs, tsNs, inT, isBl, notBl, List.all_cons, List.all_nil, List.any_cons, List.any_nil, flP, eqP, isBlB, notRef, lit_beq, List.append_nil, List.not_mem_nil, isNonB, Int.neg_neg, Int.reduceNegSucc, h1]
    exact q _
theorem own_ref {w s : String} {x y : Int} (hw : isTwo w) (hx : fit x) (hy : fit y) (e : twoV w x y = .tup [.str "refused", .str (Str.ofString s)]) :
    Own (.tup [.str (Str.ofString w)]) (frV n a sl (st ++ [.int x, .int y])) ths (frV n a sl (st ++ [.int x, .int y])) (.tup [.str "refused", .str (Str.ofString s)]) := by
  intro k b h Q X hl q
  rw [call_in (d := d_own_done) rfl rfl]
  unfold frV at q ⊢
  have hw' := hw
  rcases hw with rfl | rfl | rfl | rfl | rfl <;> simp only [evB, evS, evE, evEs, evO, evC, evT, evG, evGs, bAdd, bAddT, bSub, bMulL, bMulR, bDivL, bModL, cLt, cLe, cGt, cGe, cIs, cNot, iT0, iT1, fMin, fMax, fAbs, fLenT, tyT, tyI, tyB, tyS, truB, truI, ex_int, ex_bl, ex_tup, ex_some, ex_cons, eq_self, ex_var, eq_int, ne_int, eq_lit, ne_lit, startL, List.map_cons, List.map_nil, List.cons_append, List.nil_append, List.length_cons, List.length_nil, List.replicate, List.getElem?_cons_zero, List.getElem?_cons_succ, List.set_cons_zero, List.set_cons_succ, lenTs, Int.reduceToNat, Int.reducePow, Int.reduceSub, Int.reduceAdd, Int.reduceMul, Int.reduceNeg, Int.reduceLT, Int.reduceLE, Int.reduceEq, Nat.reduceLT, Nat.reduceLeDiff, Nat.reduceAdd, Nat.reduceSub, Nat.reducePow, bPowL, SZ, tyOf, evI, items_ref, items_tup, live_ref, live_tup, lstOf_new, true_and, and_true, ne_eq, not_true_eq_false, not_false_eq_true, Int.cast_ofNat_Int, decide_eq_true_eq, if_true, if_false, ite_true, ite_false, List.nil_append, isB, String.reduceBEq, String.reduceEq, decide_true, decide_false, Bool.false_eq_true, Bool.or_false, Bool.and_false, Bool.or_true, Bool.and_true, Bool.true_and, Bool.false_and, Bool.not_true, Bool.not_false, ite_true, ite_false, reduceIte, Bool.true_or, Bool.false_or, gt_iff_lt, ge_iff_le, iM1, iM1', iM2, cut_last, cut_last2, slT, fTupL, fTupT, fListL, fInt, fIntB, wipe0, wipe1, tNs, tsNs, inT, isBl, notBl, List.all_cons, List.all_nil, List.any_cons, List.any_nil, flP, eqP, isBlB, notRef, lit_beq, List.append_nil, List.not_mem_nil, isNonB, Int.neg_neg, Int.reduceNegSucc, d_own_done, b_own_done]
  all_goals
    refine s_two_done hw' hx hy ?_
    rw [e]
    simp only [evB, evS, evE, evEs, evO, evC, evT, evG, evGs, bAdd, bAddT, bSub, bMulL, bMulR, bDivL, bModL, cLt, cLe, cGt, cGe, cIs, cNot, iT0, iT1, fMin, fMax, fAbs, fLenT, tyT, tyI, tyB, tyS, truB, truI, ex_int, ex_bl, ex_tup, ex_some, ex_cons, eq_self, ex_var, eq_int, ne_int, eq_lit, ne_lit, startL, List.map_cons, List.map_nil, List.cons_append, List.nil_append, List.length_cons, List.length_nil, List.replicate, List.getElem?_cons_zero, List.getElem?_cons_succ, List.set_cons_zero, List.set_cons_succ, lenTs, Int.reduceToNat, Int.reducePow, Int.reduceSub, Int.reduceAdd, Int.reduceMul, Int.reduceNeg, Int.reduceLT, Int.reduceLE, Int.reduceEq, Nat.reduceLT, Nat.reduceLeDiff, Nat.reduceAdd, Nat.reduceSub, Nat.reducePow, bPowL, SZ, tyOf, evI, items_ref, items_tup, live_ref, live_tup, lstOf_new, true_and, and_true, ne_eq, not_true_eq_false, not_false_eq_true, Int.cast_ofNat_Int, decide_eq_true_eq, if_true, if_false, ite_true, ite_false, List.nil_append, isB, String.reduceBEq, String.reduceEq, decide_true, decide_false, Bool.false_eq_true, Bool.or_false, Bool.and_false, Bool.or_true, Bool.and_true, Bool.true_and, Bool.false_and, Bool.not_true, Bool.not_false, ite_true, ite_false, reduceIte, Bool.true_or, Bool.false_or, gt_iff_lt, ge_iff_le, iM1, iM1', iM2, cut_last, cut_last2, slT, fTupL, fTupT, fListL, fInt, fIntB, wipe0, wipe1, tNs, tsNs, inT, isBl, notBl, List.all_cons, List.all_nil, List.any_cons, List.any_nil, flP, eqP, isBlB, notRef, lit_beq, List.append_nil, List.not_mem_nil, isNonB, Int.neg_neg, Int.reduceNegSucc]
    exact q _
theorem own_push {v : PV} (h1 : st.length ≤ 1000) : Own (.tup [.str "push", v]) (frV n a sl st) ths (frV n (a + 1) sl (st ++ [v])) .non := by
  intro k b h Q X hl q
  have h1 : st.length ≤ 16777215 := by omega
  rw [call_in (d := d_own_done) rfl rfl]
  unfold frV at q ⊢
  simp only [evB, evS, evE, evEs, evO, evC, evT, evG, evGs, bAdd, bAddT, bSub, bMulL, bMulR, bDivL, bModL, cLt, cLe, cGt, cGe, cIs, cNot, iT0, iT1, fMin, fMax, fAbs, fLenT, tyT, tyI, tyB, tyS, truB, truI, ex_int, ex_bl, ex_tup, ex_some, ex_cons, eq_self, ex_var, eq_int, ne_int, eq_lit, ne_lit, startL, List.map_cons, List.map_nil, List.cons_append, List.nil_append, List.length_cons, List.length_nil, List.replicate, List.getElem?_cons_zero, List.getElem?_cons_succ, List.set_cons_zero, List.set_cons_succ, lenTs, Int.reduceToNat, Int.reducePow, Int.reduceSub, Int.reduceAdd, Int.reduceMul, Int.reduceNeg, Int.reduceLT, Int.reduceLE, Int.reduceEq, Nat.reduceLT, Nat.reduceLeDiff, Nat.reduceAdd, Nat.reduceSub, Nat.reducePow, bPowL, SZ, tyOf, evI, items_ref, items_tup, live_ref, live_tup, lstOf_new, true_and, and_true, ne_eq, not_true_eq_false, not_false_eq_true, Int.cast_ofNat_Int, decide_eq_true_eq, if_true, if_false, ite_true, ite_false, List.nil_append, isB, String.reduceBEq, String.reduceEq, decide_true, decide_false, Bool.false_eq_true, Bool.or_false, Bool.and_false, Bool.or_true, Bool.and_true, Bool.true_and, Bool.false_and, Bool.not_true, Bool.not_false, ite_true, ite_false, reduceIte, Bool.true_or, Bool.false_or, gt_iff_lt, ge_iff_le, iM1, iM1', iM2, cut_last, cut_last2, slT, fTupL, fTupT, fListL, fInt, fIntB, wipe0, wipe1, tNs, tsNs, inT, isBl, notBl, List.all_cons, List.all_nil, List.any_cons, List.any_nil, flP, eqP, isBlB, notRef, lit_beq, List.append_nil, List.not_mem_nil, isNonB, Int.neg_neg, Int.reduceNegSucc, d_own_done, b_own_done, c_stack, d_stack_behind, b_stack_behind, h1]
  exact q0 q
theorem own_load {v : PV} {j : Int} (h1 : st.length ≤ 1000) (ej : atI sl j = some v) : Own (.tup [.str "load", .int j]) (frV n a sl st) ths (frV n (a + 1) sl (st ++ [v])) .non := by
  intro k b h Q X hl q
  have h1 : st.length ≤ 16777215 := by omega
  rw [call_in (d := d_own_done) rfl rfl]
  unfold frV at q ⊢
  simp only [evB, evS, evE, evEs, evO, evC, evT, evG, evGs, bAdd, bAddT, bSub, bMulL, bMulR, bDivL, bModL, cLt, cLe, cGt, cGe, cIs, cNot, iT0, iT1, fMin, fMax, fAbs, fLenT, tyT, tyI, tyB, tyS, truB, truI, ex_int, ex_bl, ex_tup, ex_some, ex_cons, eq_self, ex_var, eq_int, ne_int, eq_lit, ne_lit, startL, List.map_cons, List.map_nil, List.cons_append, List.nil_append, List.length_cons, List.length_nil, List.replicate, List.getElem?_cons_zero, List.getElem?_cons_succ, List.set_cons_zero, List.set_cons_succ, lenTs, Int.reduceToNat, Int.reducePow, Int.reduceSub, Int.reduceAdd, Int.reduceMul, Int.reduceNeg, Int.reduceLT, Int.reduceLE, Int.reduceEq, Nat.reduceLT, Nat.reduceLeDiff, Nat.reduceAdd, Nat.reduceSub, Nat.reducePow, bPowL, SZ, tyOf, evI, items_ref, items_tup, live_ref, live_tup, lstOf_new, true_and, and_true, ne_eq, not_true_eq_false, not_false_eq_true, Int.cast_ofNat_Int, decide_eq_true_eq, if_true, if_false, ite_true, ite_false, List.nil_append, isB, String.reduceBEq, String.reduceEq, decide_true, decide_false, Bool.false_eq_true, Bool.or_false, Bool.and_false, Bool.or_true, Bool.and_true, Bool.true_and, Bool.false_and, Bool.not_true, Bool.not_false, ite_true, ite_false, reduceIte, Bool.true_or, Bool.false_or, gt_iff_lt, ge_iff_le, iM1, iM1', iM2, cut_last, cut_last2, slT, fTupL, fTupT, fListL, fInt, fIntB, wipe0, wipe1, tNs, tsNs, inT, isBl, notBl, List.all_cons, List.all_nil, List.any_cons, List.any_nil, flP, eqP, isBlB, notRef, lit_beq, List.append_nil, List.not_mem_nil, isNonB, Int.neg_neg, Int.reduceNegSucc, d_own_done, b_own_done, c_stack, d_stack_behind, b_stack_behind, h1, iAt ej]
  exact q0 q
theorem own_drop {v : PV} : Own (.tup [.str "drop"]) (frV n a sl (st ++ [v])) ths (frV n (a + 1) sl st) .non := by
  intro k b h Q X hl q
  rw [call_in (d := d_own_done) rfl rfl]
  unfold frV at q ⊢
  simp only [evB, evS, evE, evEs, evO, evC, evT, evG, evGs, bAdd, bAddT, bSub, bMulL, bMulR, bDivL, bModL, cLt, cLe, cGt, cGe, cIs, cNot, iT0, iT1, fMin, fMax, fAbs, fLenT, tyT, tyI, tyB, tyS, truB, truI, ex_int, ex_bl, ex_tup, ex_some, ex_cons, eq_self, ex_var, eq_int, ne_int, eq_lit, ne_lit, startL, List.map_cons, List.map_nil, List.cons_append, List.nil_append, List.length_cons, List.length_nil, List.replicate, List.getElem?_cons_zero, List.getElem?_cons_succ, List.set_cons_zero, List.set_cons_succ, lenTs, Int.reduceToNat, Int.reducePow, Int.reduceSub, Int.reduceAdd, Int.reduceMul, Int.reduceNeg, Int.reduceLT, Int.reduceLE, Int.reduceEq, Nat.reduceLT, Nat.reduceLeDiff, Nat.reduceAdd, Nat.reduceSub, Nat.reducePow, bPowL, SZ, tyOf, evI, items_ref, items_tup, live_ref, live_tup, lstOf_new, true_and, and_true, ne_eq, not_true_eq_false, not_false_eq_true, Int.cast_ofNat_Int, decide_eq_true_eq, if_true, if_false, ite_true, ite_false, List.nil_append, isB, String.reduceBEq, String.reduceEq, decide_true, decide_false, Bool.false_eq_true, Bool.or_false, Bool.and_false, Bool.or_true, Bool.and_true, Bool.true_and, Bool.false_and, Bool.not_true, Bool.not_false, ite_true, ite_false, reduceIte, Bool.true_or, Bool.false_or, gt_iff_lt, ge_iff_le, iM1, iM1', iM2, cut_last, cut_last2, slT, fTupL, fTupT, fListL, fInt, fIntB, wipe0, wipe1, tNs, tsNs, inT, isBl, notBl, List.all_cons, List.all_nil, List.any_cons, List.any_nil, flP, eqP, isBlB, notRef, lit_beq, List.append_nil, List.not_mem_nil, isNonB, Int.neg_neg, Int.reduceNegSucc, d_own_done, b_own_done, c_stack, d_stack_behind, b_stack_behind]
  exact q0 q
theorem own_not {c : Bool} (h1 : st.length ≤ 1000) : Own (.tup [.str "not"]) (frV n a sl (st ++ [.bl c])) ths (frV n (a + 1) sl (st ++ [.bl (!c)])) .non := by
  intro k b h Q X hl q
  have h1 : st.length ≤ 16777215 := by omega
  rw [call_in (d := d_own_done) rfl rfl]
  unfold frV at q ⊢
  simp only [evB, evS, evE, evEs, evO, evC, evT, evG, evGs, bAdd, bAddT, bSub, bMulL, bMulR, bDivL, bModL, cLt, cLe, cGt, cGe, cIs, cNot, iT0, iT1, fMin, fMax, fAbs, fLenT, tyT, tyI, tyB, tyS, truB, truI, ex_int, ex_bl, ex_tup, ex_some, ex_cons, eq_self, ex_var, eq_int, ne_int, eq_lit, ne_lit, startL, List.map_cons, List.map_nil, List.cons_append, List.nil_append, List.length_cons, List.length_nil, List.replicate, List.getElem?_cons_zero, List.getElem?_cons_succ, List.set_cons_zero, List.set_cons_succ, lenTs, Int.reduceToNat, Int.reducePow, Int.reduceSub, Int.reduceAdd, Int.reduceMul, Int.reduceNeg, Int.reduceLT, Int.reduceLE, Int.reduceEq, Nat.reduceLT, Nat.reduceLeDiff, Nat.reduceAdd, Nat.reduceSub, Nat.reducePow, bPowL, SZ, tyOf, evI, items_ref, items_tup, live_ref, live_tup, lstOf_new, true_and, and_true, ne_eq, not_true_eq_false, not_false_eq_true, Int.cast_ofNat_Int, decide_eq_true_eq, if_true, if_false, ite_true, ite_false, List.nil_append, isB, String.reduceBEq, String.reduceEq, decide_true, decide_false, Bool.false_eq_true, Bool.or_false, Bool.and_false, Bool.or_true, Bool.and_true, Bool.true_and, Bool.false_and, Bool.not_true, Bool.not_false, ite_true, ite_false, reduceIte, Bool.true_or, Bool.false_or, gt_iff_lt, ge_iff_le, iM1, iM1', iM2, cut_last, cut_last2, slT, fTupL, fTupT, fListL, fInt, fIntB, wipe0, wipe1, tNs, tsNs, inT, isBl, notBl, List.all_cons, List.all_nil, List.any_cons, List.any_nil, flP, eqP, isBlB, notRef, lit_beq, List.append_nil, List.not_mem_nil, isNonB, Int.neg_neg, Int.reduceNegSucc, d_own_done, b_own_done, c_stack, d_stack_behind, b_stack_behind, h1]
  exact q0 q
theorem own_skip {t : Int} : Own (.tup [.str "skip", .int t]) (frV n a sl st) ths (frV n (a + 1 + t) sl st) .non := by
  intro k b h Q X hl q
  rw [call_in (d := d_own_done) rfl rfl]
  unfold frV at q ⊢
  simp only [evB, evS, evE, evEs, evO, evC, evT, evG, evGs, bAdd, bAddT, bSub, bMulL, bMulR, bDivL, bModL, cLt, cLe, cGt, cGe, cIs, cNot, iT0, iT1, fMin, fMax, fAbs, fLenT, tyT, tyI, tyB, tyS, truB, truI, ex_int, ex_bl, ex_tup, ex_some, ex_cons, eq_self, ex_var, eq_int, ne_int, eq_lit, ne_lit, startL, List.map_cons, List.map_nil, List.cons_append, List.nil_append, List.length_cons, List.length_nil, List.replicate, List.getElem?_cons_zero, List.getElem?_cons_succ, List.set_cons_zero, List.set_cons_succ, lenTs, Int.reduceToNat, Int.reducePow, Int.reduceSub, Int.reduceAdd, Int.reduceMul, Int.reduceNeg, Int.reduceLT, Int.reduceLE, Int.reduceEq, Nat.reduceLT, Nat.reduceLeDiff, Nat.reduceAdd, Nat.reduceSub, Nat.reducePow, bPowL, SZ, tyOf, evI, items_ref, items_tup, live_ref, live_tup, lstOf_new, true_and, and_true, ne_eq, not_true_eq_false, not_false_eq_true, Int.cast_ofNat_Int, decide_eq_true_eq, if_true, if_false, ite_true, ite_false, List.nil_append, isB, String.reduceBEq, String.reduceEq, decide_true, decide_false, Bool.false_eq_true, Bool.or_false, Bool.and_false, Bool.or_true, Bool.and_true, Bool.true_and, Bool.false_and, Bool.not_true, Bool.not_false, ite_true, ite_false, reduceIte, Bool.true_or, Bool.false_or, gt_iff_lt, ge_iff_le, iM1, iM1', iM2, cut_last, cut_last2, slT, fTupL, fTupT, fListL, fInt, fIntB, wipe0, wipe1, tNs, tsNs, inT, isBl, notBl, List.all_cons, List.all_nil, List.any_cons, List.any_nil, flP, eqP, isBlB, notRef, lit_beq, List.append_nil, List.not_mem_nil, isNonB, Int.neg_neg, Int.reduceNegSucc, d_own_done, b_own_done, c_gone, d_gone_on, b_gone_on]
  exact q0 q
theorem own_unless {c : Bool} {t : Int} : Own (.tup [.str "unless", .int t]) (frV n a sl (st ++ [.bl c])) ths (frV n (if c = true then a + 1 else a + 1 + t) sl st) .non := by
  intro k b h Q X hl q
  rw [call_in (d := d_own_done) rfl rfl]
  unfold frV at q ⊢
  cases c <;> simp only [evB, evS, evE, evEs, evO, evC, evT, evG, evGs, bAdd, bAddT, bSub, bMulL, bMulR, bDivL, bModL, cLt, cLe, cGt, cGe, cIs, cNot, iT0, iT1, fMin, fMax, fAbs, fLenT, tyT, tyI, tyB, tyS, truB, truI, ex_int, ex_bl, ex_tup, ex_some, ex_cons, eq_self, ex_var, eq_int, ne_int, eq_lit, ne_lit, startL, List.map_cons, List.map_nil, List.cons_append, List.nil_append, List.length_cons, List.length_nil, List.replicate, List.getElem?_cons_zero, List.getElem?_cons_succ, List.set_cons_zero, List.set_cons_succ, lenTs, Int.reduceToNat, Int.reducePow, Int.reduceSub, Int.reduceAdd, Int.reduceMul, Int.reduceNeg, Int.reduceLT, Int.reduceLE, Int.reduceEq, Nat.reduceLT, Nat.reduceLeDiff, Nat.reduceAdd, Nat.reduceSub, Nat.reducePow, bPowL, SZ, tyOf, evI, items_ref, items_tup, live_ref, live_tup, lstOf_new, true_and, and_true, ne_eq, not_true_eq_false, not_false_eq_true, Int.cast_ofNat_Int, decide_eq_true_eq, if_true, if_false, ite_true, ite_false, List.nil_append, isB, String.reduceBEq, String.reduceEq, decide_true, decide_false, Bool.false_eq_true, Bool.or_false, Bool.and_false, Bool.or_true, Bool.and_true, Bool.true_and, Bool.false_and, Bool.not_true, Bool.not_false, ite_true, ite_false, reduceIte, Bool.true_or, Bool.false_or, gt_iff_lt, ge_iff_le, iM1, iM1', iM2, cut_last, cut_last2, slT, fTupL, fTupT, fListL, fInt, fIntB, wipe0, wipe1, tNs, tsNs, inT, isBl, notBl, List.all_cons, List.all_nil, List.any_cons, List.any_nil, flP, eqP, isBlB, notRef, lit_beq, List.append_nil, List.not_mem_nil, isNonB, Int.neg_neg, Int.reduceNegSucc, d_own_done, b_own_done, c_gone, d_gone_on, b_gone_on]
  · exact q0 q
  · exact q0 q
theorem own_get {v c : PV} {i j : Int} {fs : List PV} (h1 : st.length ≤ 1000) (ei : atI ths i = some (.tup [c, .tup fs])) (ej : atI fs j = some v) : Own (.tup [.str "get", .int j]) (frV n a sl (st ++ [.tup [.str "thing", .int i]])) ths (frV n (a + 1) sl (st ++ [v])) .non := by
  intro k b h Q X hl q
  have h1 : st.length ≤ 16777215 := by omega
  rw [call_in (d := d_own_done) rfl rfl]
  unfold frV at q ⊢
  simp only [evB, evS, evE, evEs, evO, evC, evT, evG, evGs, bAdd, bAddT, bSub, bMulL, bMulR, bDivL, bModL, cLt, cLe, cGt, cGe, cIs, cNot, iT0, iT1, fMin, fMax, fAbs, fLenT, tyT, tyI, tyB, tyS, truB, truI, ex_int, ex_bl, ex_tup, ex_some, ex_cons, eq_self, ex_var, eq_int, ne_int, eq_lit, ne_lit, startL, List.map_cons, List.map_nil, List.cons_append, List.nil_append, List.length_cons, List.length_nil, List.replicate, List.getElem?_cons_zero, List.getElem?_cons_succ, List.set_cons_zero, List.set_cons_succ, lenTs, Int.reduceToNat, Int.reducePow, Int.reduceSub, Int.reduceAdd, Int.reduceMul, Int.reduceNeg, Int.reduceLT, Int.reduceLE, Int.reduceEq, Nat.reduceLT, Nat.reduceLeDiff, Nat.reduceAdd, Nat.reduceSub, Nat.reducePow, bPowL, SZ, tyOf, evI, items_ref, items_tup, live_ref, live_tup, lstOf_new, true_and, and_true, ne_eq, not_true_eq_false, not_false_eq_true, Int.cast_ofNat_Int, decide_eq_true_eq, if_true, if_false, ite_true, ite_false, List.nil_append, isB, String.reduceBEq, String.reduceEq, decide_true, decide_false, Bool.false_eq_true, Bool.or_false, Bool.and_false, Bool.or_true, Bool.and_true, Bool.true_and, Bool.false_and, Bool.not_true, Bool.not_false, ite_true, ite_false, reduceIte, Bool.true_or, Bool.false_or, gt_iff_lt, ge_iff_le, iM1, iM1', iM2, cut_last, cut_last2, slT, fTupL, fTupT, fListL, fInt, fIntB, wipe0, wipe1, tNs, tsNs, inT, isBl, notBl, List.all_cons, List.all_nil, List.any_cons, List.any_nil, flP, eqP, isBlB, notRef, lit_beq, List.append_nil, List.not_mem_nil, isNonB, Int.neg_neg, Int.reduceNegSucc, d_own_done, b_own_done, c_stack, d_stack_behind, b_stack_behind, h1, iRef, hl, ei, iAt ej]
  exact q0 q
theorem own_same {x y : PV} (h1 : st.length ≤ 1000) (ox : okV x = true) (oy : okV y = true) : Own (.tup [.str "same"]) (frV n a sl (st ++ [x, y])) ths (frV n (a + 1) sl (st ++ [.bl (PyData.eqv (dat x) (dat y))])) .non := by
  intro k b h Q X hl q
  have h1 : st.length ≤ 16777215 := by omega
  rw [call_in (d := d_own_done) rfl rfl]
  unfold frV at q ⊢
  simp only [evB, evS, evE, evEs, evO, evC, evT, evG, evGs, bAdd, bAddT, bSub, bMulL, bMulR, bDivL, bModL, cLt, cLe, cGt, cGe, cIs, cNot, iT0, iT1, fMin, fMax, fAbs, fLenT, tyT, tyI, tyB, tyS, truB, truI, ex_int, ex_bl, ex_tup, ex_some, ex_cons, eq_self, ex_var, eq_int, ne_int, eq_lit, ne_lit, startL, List.map_cons, List.map_nil, List.cons_append, List.nil_append, List.length_cons, List.length_nil, List.replicate, List.getElem?_cons_zero, List.getElem?_cons_succ, List.set_cons_zero, List.set_cons_succ, lenTs, Int.reduceToNat, Int.reducePow, Int.reduceSub, Int.reduceAdd, Int.reduceMul, Int.reduceNeg, Int.reduceLT, Int.reduceLE, Int.reduceEq, Nat.reduceLT, Nat.reduceLeDiff, Nat.reduceAdd, Nat.reduceSub, Nat.reducePow, bPowL, SZ, tyOf, evI, items_ref, items_tup, live_ref, live_tup, lstOf_new, true_and, and_true, ne_eq, not_true_eq_false, not_false_eq_true, Int.cast_ofNat_Int, decide_eq_true_eq, if_true, if_false, ite_true, ite_false, List.nil_append, isB, String.reduceBEq, String.reduceEq, decide_true, decide_false, Bool.false_eq_true, Bool.or_false, Bool.and_false, Bool.or_true, Bool.and_true, Bool.true_and, Bool.false_and, Bool.not_true, Bool.not_false, ite_true, ite_false, reduceIte, Bool.true_or, Bool.false_or, gt_iff_lt, ge_iff_le, iM1, iM1', iM2, cut_last, cut_last2, slT, fTupL, fTupT, fListL, fInt, fIntB, wipe0, wipe1, tNs, tsNs, inT, isBl, notBl, List.all_cons, List.all_nil, List.any_cons, List.any_nil, flP, eqP, isBlB, notRef, lit_beq, List.append_nil, List.not_mem_nil, isNonB, Int.neg_neg, Int.reduceNegSucc, d_own_done, b_own_done, c_done, d_two_done, b_two_done, h1, cmp_eq ox oy]
  exact q0 q
theorem own_keep {x : PV} {j : Nat} (l1 : sl.length ≤ 1000) (hj : j < sl.length) : Own (.tup [.str "keep", .int j]) (frV n a sl (st ++ [x])) ths (frV n (a + 1) (sl.set j x) st) .non := by
  intro k b h Q X hl q
  have h1 : (sl.take j ++ [x]).length ≤ 16777215 := by simp; omega
  have e1 : sl.take j ++ [x] ++ sl.drop (j + 1) = sl.set j x := by
    rw [List.set_eq_take_append_cons_drop, if_pos hj, List.append_assoc]; rfl
  have h2 : (sl.take j ++ [x]).length + (sl.drop (j + 1)).length ≤ 16777216 := by simp; omega
  have h3 : (sl.take j).length ≤ 16777215 := by simp; omega
  rw [call_in (d := d_own_done) rfl rfl]
  unfold frV at q ⊢
  simp only [evB, evS, evE, evEs, evO, evC, evT, evG, evGs, bAdd, bAddT, bSub, bMulL, bMulR, bDivL, bModL, cLt, cLe, cGt, cGe, cIs, cNot, iT0, iT1, fMin, fMax, fAbs, fLenT, tyT, tyI, tyB, tyS, truB, truI, ex_int, ex_bl, ex_tup, ex_some, ex_cons, eq_self, ex_var, eq_int, ne_int, eq_lit, ne_lit, startL, List.map_cons, List.map_nil, List.cons_append, List.nil_append, List.length_cons, List.length_nil, List.replicate, List.getElem?_cons_zero, List.getElem?_cons_succ, List.set_cons_zero, List.set_cons_succ, lenTs, Int.reduceToNat, Int.reducePow, Int.reduceSub, Int.reduceAdd, Int.reduceMul, Int.reduceNeg, Int.reduceLT, Int.reduceLE, Int.reduceEq, Nat.reduceLT, Nat.reduceLeDiff, Nat.reduceAdd, Nat.reduceSub, Nat.reducePow, bPowL, SZ, tyOf, evI, items_ref, items_tup, live_ref, live_tup, lstOf_new, true_and, and_true, ne_eq, not_true_eq_false, not_false_eq_true, Int.cast_ofNat_Int, decide_eq_true_eq, if_true, if_false, ite_true, ite_false, List.nil_append, isB, String.reduceBEq, String.reduceEq, decide_true, decide_false, Bool.false_eq_true, Bool.or_false, Bool.and_false, Bool.or_true, Bool.and_true, Bool.true_and, Bool.false_and, Bool.not_true, Bool.not_false, ite_true, ite_false, reduceIte, Bool.true_or, Bool.false_or, gt_iff_lt, ge_iff_le, iM1, iM1', iM2, cut_last, cut_last2, slT, fTupL, fTupT, fListL, fInt, fIntB, wipe0, wipe1, tNs, tsNs, inT, isBl, notBl, List.all_cons, List.all_nil, List.any_cons, List.any_nil, flP, eqP, isBlB, notRef, lit_beq, List.append_nil, List.not_mem_nil, isNonB, Int.neg_neg, Int.reduceNegSucc, d_own_done, b_own_done, c_stack, d_stack_behind, b_stack_behind, cut_to (Nat.le_of_lt hj), cut_from hj, h3, h2, e1]
  exact q0 q
end
end Py

set_option Elab.async false
set_option linter.all false
set_option maxRecDepth 100000
set_option maxHeartbeats 4000000
/-! The machine, over the reading: how it stands in the heap. -/
namespace Py
open PySem
structure Fr where
  b : Int
  a : Int
  sl : List PV
  st : List PV
def Fr.v (f : Fr) : PV := frV f.b f.a f.sl f.st
structure St where
  pile : List Fr
  made : List PV
  counted : Int
  sought : Int
  met : Int
  gone : Int
  ended : PV
  pairs : Int → List (Int × Int)
structure Cf where
  code : List PV
  tabs : List (List PV)
  bound : Int
  keeps : Bool
def fM (C : Cf) (ac ah sp ap am : Nat) (s : St) : List (Nat × PV) :=
  [(n_code, .ref ac), (n_by_house, .ref ah), (n_bound, .int C.bound), (n_keeps, .bl C.keeps), (n_spots, .ref sp), (n_pile, .ref ap), (n_made, .ref am), (n_counted, .int s.counted), (n_sought, .int s.sought), (n_met, .int s.met), (n_gone, .int s.gone), (n_ended, s.ended)]
def cMachine : CD := ⟨n_Machine___init__, [(n_over, n_Machine_over), (n_block_for, n_Machine_block_for), (n_enter, n_Machine_enter), (n_leave, n_Machine_leave), (n_make, n_Machine_make), (n_set_one, n_Machine_set_one), (n_step, n_Machine_step), (n_frames, n_Machine_frames), (n_things, n_Machine_things), (n_answer, n_Machine_answer), (n_calls, n_Machine_calls), (n_looks, n_Machine_looks), (n_hits, n_Machine_hits), (n_rows_done, n_Machine_rows_done)], [n_code, n_by_house, n_bound, n_keeps, n_spots, n_pile, n_made, n_counted, n_sought, n_met, n_gone, n_ended]⟩
theorem c_Machine : sgT.cls n_Machine = some cMachine := rfl
theorem k_WITHIN : sgT.con n_MOST_WITHIN = some (.int 40) := rfl
section
variable {C : Cf} {h : PH} {p ac ah sp ap am : Nat} {s : St} {R : PV → Prop} {S : Nat → Nat → List (Nat × PV) → Prop}
theorem rd_code (hp : h[p]? = some (.ins n_Machine (fM C ac ah sp ap am s))) : (∃ p' c' fs' v' cd', PV.ref p = .ref p' ∧ h[p']? = some (.ins c' fs') ∧ sgT.cls c' = some cd' ∧ cd'.fields.contains n_code = true ∧ getN n_code fs' = some v' ∧ R v') = R (.ref ac) := ex_attr hp c_Machine rfl rfl
theorem rd_by (hp : h[p]? = some (.ins n_Machine (fM C ac ah sp ap am s))) : (∃ p' c' fs' v' cd', PV.ref p = .ref p' ∧ h[p']? = some (.ins c' fs') ∧ sgT.cls c' = some cd' ∧ cd'.fields.contains n_by_house = true ∧ getN n_by_house fs' = some v' ∧ R v') = R (.ref ah) := ex_attr hp c_Machine rfl rfl
theorem rd_bound (hp : h[p]? = some (.ins n_Machine (fM C ac ah sp ap am s))) : (∃ p' c' fs' v' cd', PV.ref p = .ref p' ∧ h[p']? = some (.ins c' fs') ∧ sgT.cls c' = some cd' ∧ cd'.fields.contains n_bound = true ∧ getN n_bound fs' = some v' ∧ R v') = R (.int C.bound) := ex_attr hp c_Machine rfl rfl
theorem rd_keeps (hp : h[p]? = some (.ins n_Machine (fM C ac ah sp ap am s))) : (∃ p' c' fs' v' cd', PV.ref p = .ref p' ∧ h[p']? = some (.ins c' fs') ∧ sgT.cls c' = some cd' ∧ cd'.fields.contains n_keeps = true ∧ getN n_keeps fs' = some v' ∧ R v') = R (.bl C.keeps) := ex_attr hp c_Machine rfl rfl
theorem rd_spots (hp : h[p]? = some (.ins n_Machine (fM C ac ah sp ap am s))) : (∃ p' c' fs' v' cd', PV.ref p = .ref p' ∧ h[p']? = some (.ins c' fs') ∧ sgT.cls c' = some cd' ∧ cd'.fields.contains n_spots = true ∧ getN n_spots fs' = some v' ∧ R v') = R (.ref sp) := ex_attr hp c_Machine rfl rfl
theorem rd_pile (hp : h[p]? = some (.ins n_Machine (fM C ac ah sp ap am s))) : (∃ p' c' fs' v' cd', PV.ref p = .ref p' ∧ h[p']? = some (.ins c' fs') ∧ sgT.cls c' = some cd' ∧ cd'.fields.contains n_pile = true ∧ getN n_pile fs' = some v' ∧ R v') = R (.ref ap) := ex_attr hp c_Machine rfl rfl
theorem rd_made (hp : h[p]? = some (.ins n_Machine (fM C ac ah sp ap am s))) : (∃ p' c' fs' v' cd', PV.ref p = .ref p' ∧ h[p']? = some (.ins c' fs') ∧ sgT.cls c' = some cd' ∧ cd'.fields.contains n_made = true ∧ getN n_made fs' = some v' ∧ R v') = R (.ref am) := ex_attr hp c_Machine rfl rfl
theorem rd_counted (hp : h[p]? = some (.ins n_Machine (fM C ac ah sp ap am s))) : (∃ p' c' fs' v' cd', PV.ref p = .ref p' ∧ h[p']? = some (.ins c' fs') ∧ sgT.cls c' = some cd' ∧ cd'.fields.contains n_counted = true ∧ getN n_counted fs' = some v' ∧ R v') = R (.int s.counted) := ex_attr hp c_Machine rfl rfl
theorem rd_sought (hp : h[p]? = some (.ins n_Machine (fM C ac ah sp ap am s))) : (∃ p' c' fs' v' cd', PV.ref p = .ref p' ∧ h[p']? = some (.ins c' fs') ∧ sgT.cls c' = some cd' ∧ cd'.fields.contains n_sought = true ∧ getN n_sought fs' = some v' ∧ R v') = R (.int s.sought) := ex_attr hp c_Machine rfl rfl
theorem rd_met (hp : h[p]? = some (.ins n_Machine (fM C ac ah sp ap am s))) : (∃ p' c' fs' v' cd', PV.ref p = .ref p' ∧ h[p']? = some (.ins c' fs') ∧ sgT.cls c' = some cd' ∧ cd'.fields.contains n_met = true ∧ getN n_met fs' = some v' ∧ R v') = R (.int s.met) := ex_attr hp c_Machine rfl rfl
theorem rd_gone (hp : h[p]? = some (.ins n_Machine (fM C ac ah sp ap am s))) : (∃ p' c' fs' v' cd', PV.ref p = .ref p' ∧ h[p']? = some (.ins c' fs') ∧ sgT.cls c' = some cd' ∧ cd'.fields.contains n_gone = true ∧ getN n_gone fs' = some v' ∧ R v') = R (.int s.gone) := ex_attr hp c_Machine rfl rfl
theorem rd_ended (hp : h[p]? = some (.ins n_Machine (fM C ac ah sp ap am s))) : (∃ p' c' fs' v' cd', PV.ref p = .ref p' ∧ h[p']? = some (.ins c' fs') ∧ sgT.cls c' = some cd' ∧ cd'.fields.contains n_ended = true ∧ getN n_ended fs' = some v' ∧ R v') = R s.ended := ex_attr hp c_Machine rfl rfl
/-- a field += -/
theorem ex_augF {G : Sig} {h : PH} {p c f : Nat} {fs : List (Nat × PV)} {cd : CD} {v : PV} {R : Nat → Nat → PV → Prop} (e : h[p]? = some (.ins c fs)) (hc : G.cls c = some cd) (hf : cd.fields.contains f = true) (g : getN f fs = some v) :
    (∃ p' c' fs' v' cd', PV.ref p = .ref p' ∧ h[p']? = some (.ins c' fs') ∧ G.cls c' = some cd' ∧ cd'.fields.contains f = true ∧ getN f fs' = some v' ∧ R p' c' v') = R p c v := by
  refine propext ⟨fun ⟨p', c', fs', v', cd', e1, e2, e3, _, e5, q⟩ => ?_, fun q => ⟨p, c, fs, v, cd, rfl, e, hc, hf, g, q⟩⟩
  cases e1
  rw [e] at e2; cases e2
  rw [g] at e5; cases e5
  exact q
theorem ex_augW {h : PH} {p c : Nat} {fs : List (Nat × PV)} {R : List (Nat × PV) → Prop} (e : h[p]? = some (.ins c fs)) (l : fs.length < 900) : (∃ fs', h[p]? = some (.ins c fs') ∧ fs'.length < 900 ∧ R fs') = R fs := by
  refine propext ⟨fun ⟨fs', e1, _, q⟩ => ?_, fun q => ⟨fs, e, l, q⟩⟩
  rw [e] at e1; cases e1; exact q
theorem ag_add {i j : Int} {h : PH} {Q : KQ} : augV .add (.int i) (.int j) h Q = Q (.int (i + j)) h := rfl
theorem wr_ (f : Nat) (hf : cMachine.fields.contains f = true) (hp : h[p]? = some (.ins n_Machine (fM C ac ah sp ap am s))) : (∃ p' c' fs' cd', PV.ref p = .ref p' ∧ h[p']? = some (.ins c' fs') ∧ sgT.cls c' = some cd' ∧ cd'.fields.contains f = true ∧ fs'.length < 900 ∧ S p' c' fs') = S p n_Machine (fM C ac ah sp ap am s) :=
  ex_set hp c_Machine hf (by show 12 < 900; omega)
end
/-- a machine as it stands: Fp holds what is its own -/
structure MC (C : Cf) (Fp : Nat → Prop) (n : Nat) (h : PH) (p ac ah sp ap am d : Nat) (th : List Nat) (s : St) : Prop where
  ins : h[p]? = some (.ins n_Machine (fM C ac ah sp ap am s))
  spot : h[sp]? = some (.ins n_Places [(n_pairs, .ref d)])
  pile : h[ap]? = some (.lst (s.pile.map Fr.v))
  made : h[am]? = some (.lst s.made)
  code : h[ac]? = some (.lst C.code)
  houses : h[ah]? = some (.lst (th.map .ref))
  tabs : th.length = C.tabs.length ∧ ∀ (i : Nat) (t : Nat), th[i]? = some t → ∃ xs, C.tabs[i]? = some xs ∧ h[t]? = some (.lst xs)
  dic : Dic (fun a => Fp a ∧ a ≠ ap ∧ a ≠ am) n h d s.pairs
  own : Fp p ∧ Fp sp ∧ Fp ap ∧ Fp am ∧ Fp ac ∧ Fp ah ∧ Fp d ∧ ∀ t ∈ th, Fp t
  apart : ap ≠ am ∧ ac ≠ ap ∧ ac ≠ am ∧ ah ≠ ap ∧ ah ≠ am ∧ ∀ t ∈ th, t ≠ ap ∧ t ≠ am
def grow (Fp : Nat → Prop) (h h' : PH) : Nat → Prop := fun a => Fp a ∨ (h.length ≤ a ∧ a < h'.length)
section
variable {C : Cf} {Fp : Nat → Prop} {n : Nat} {h : PH} {p ac ah sp ap am d : Nat} {th : List Nat} {s : St}
/-- what is not the machine's may change -/
theorem MC.frame {h' : PH} (M : MC C Fp n h p ac ah sp ap am d th s) (k : ∀ a o, Fp a → h[a]? = some o → h'[a]? = some o) : MC C Fp n h' p ac ah sp ap am d th s := by
  obtain ⟨o1, o2, o3, o4, o5, o6, o7, o8⟩ := M.own
  refine ⟨k _ _ o1 M.ins, k _ _ o2 M.spot, k _ _ o3 M.pile, k _ _ o4 M.made, k _ _ o5 M.code, k _ _ o6 M.houses, ⟨M.tabs.1, fun i t e => ?_⟩, ?_, M.own, M.apart⟩
  · obtain ⟨xs, a, b⟩ := M.tabs.2 i t e
    exact ⟨xs, a, k _ _ (o8 t (List.mem_of_getElem? e)) b⟩
  · obtain ⟨kvs, hd, hl, hm⟩ := M.dic.ex
    refine ⟨kvs, k _ _ o7 hd, hl, fun x => ?_⟩
    have hs := hm x
    cases e : lookD (.int x) kvs with
    | none => rw [e] at hs; exact hs
    | some v =>
      rw [e] at hs
      obtain ⟨y, rfl, hy, hr⟩ := hs
      exact ⟨y, rfl, k _ _ hr.1 hy, hr⟩
theorem MC.app {t : PH} (M : MC C Fp n h p ac ah sp ap am d th s) : MC C Fp n (h ++ t) p ac ah sp ap am d th s := M.frame fun _ _ _ e => get_app e
theorem MC.wide {Fp' : Nat → Prop} {n' : Nat} (M : MC C Fp n h p ac ah sp ap am d th s) (l : n ≤ n') (w : ∀ a, Fp a → Fp' a) : MC C Fp' n' h p ac ah sp ap am d th s := by
  obtain ⟨o1, o2, o3, o4, o5, o6, o7, o8⟩ := M.own
  exact ⟨M.ins, M.spot, M.pile, M.made, M.code, M.houses, M.tabs, M.dic.more l fun a r => ⟨w a r.1, r.2⟩, ⟨w _ o1, w _ o2, w _ o3, w _ o4, w _ o5, w _ o6, w _ o7, fun t ht => w _ (o8 t ht)⟩, M.apart⟩
theorem get_set_ne {h : PH} {a b : Nat} {o u : PO} (e : h[a]? = some o) (n : a ≠ b) : (h.set b u)[a]? = some o := by rw [List.getElem?_set_ne (Ne.symm n)]; exact e
theorem kinds_ne {h : PH} {a b : Nat} {o u : PO} (e : h[a]? = some o) (f : h[b]? = some u) (n : o ≠ u) : a ≠ b := fun z => n (by rw [z, f] at e; exact (Option.some.inj e).symm)
/-- the fields of the machine, but for its lists -/
theorem MC.setIns {s' : St} (M : MC C Fp n h p ac ah sp ap am d th s) (e1 : s'.pile = s.pile) (e2 : s'.made = s.made) (e3 : s'.pairs = s.pairs) : MC C Fp n (h.set p (.ins n_Machine (fM C ac ah sp ap am s'))) p ac ah sp ap am d th s' := by
  have hl := (List.getElem?_eq_some_iff.mp M.ins).1
  have ne : ∀ (a : Nat) (xs : List PV), h[a]? = some (PO.lst xs) → a ≠ p := fun a xs e => kinds_ne e M.ins nofun
  refine ⟨List.getElem?_set_self hl, get_set_ne M.spot (kinds_ne M.spot M.ins (by intro z; injection z with z; exact absurd z (by decide))), ?_, ?_, get_set_ne M.code (ne _ _ M.code), get_set_ne M.houses (ne _ _ M.houses), ⟨M.tabs.1, fun i t e => ?_⟩, ?_, M.own, M.apart⟩
  · rw [e1]; exact get_set_ne M.pile (ne _ _ M.pile)
  · rw [e2]; exact get_set_ne M.made (ne _ _ M.made)
  · obtain ⟨xs, a, b⟩ := M.tabs.2 i t e
    exact ⟨xs, a, get_set_ne b (ne _ _ b)⟩
  · rw [e3]
    obtain ⟨kvs, hd, hl, hm⟩ := M.dic.ex
    refine ⟨kvs, get_set_ne hd (kinds_ne hd M.ins nofun), hl, fun x => ?_⟩
    have hs := hm x
    cases e : lookD (.int x) kvs with
    | none => rw [e] at hs; exact hs
    | some v =>
      rw [e] at hs
      obtain ⟨y, rfl, hy, hr⟩ := hs
      exact ⟨y, rfl, get_set_ne hy (ne _ _ hy), hr⟩
theorem MC.setPile {pl : List Fr} (M : MC C Fp n h p ac ah sp ap am d th s) : MC C Fp n (h.set ap (.lst (pl.map Fr.v))) p ac ah sp ap am d th { s with pile := pl } := by
  have hl := (List.getElem?_eq_some_iff.mp M.pile).1
  obtain ⟨n1, n2, n3, n4, n5, n6⟩ := M.apart
  refine ⟨get_set_ne M.ins (kinds_ne M.ins M.pile nofun), get_set_ne M.spot (kinds_ne M.spot M.pile nofun), List.getElem?_set_self hl, get_set_ne M.made (Ne.symm n1), get_set_ne M.code n2, get_set_ne M.houses n4, ⟨M.tabs.1, fun i t e => ?_⟩, ?_, M.own, M.apart⟩
  · obtain ⟨xs, a, b⟩ := M.tabs.2 i t e
    exact ⟨xs, a, get_set_ne b (n6 t (List.mem_of_getElem? e)).1⟩
  · obtain ⟨kvs, hd, hl, hm⟩ := M.dic.ex
    refine ⟨kvs, get_set_ne hd (kinds_ne hd M.pile nofun), hl, fun x => ?_⟩
    have hs := hm x
    cases e : lookD (.int x) kvs with
    | none => rw [e] at hs; exact hs
    | some v =>
      rw [e] at hs
      obtain ⟨y, rfl, hy, hr⟩ := hs
      exact ⟨y, rfl, get_set_ne hy hr.2.1, hr⟩
theorem MC.setMade {ms : List PV} (M : MC C Fp n h p ac ah sp ap am d th s) : MC C Fp n (h.set am (.lst ms)) p ac ah sp ap am d th { s with made := ms } := by
  have hl := (List.getElem?_eq_some_iff.mp M.made).1
  obtain ⟨n1, n2, n3, n4, n5, n6⟩ := M.apart
  refine ⟨get_set_ne M.ins (kinds_ne M.ins M.made nofun), get_set_ne M.spot (kinds_ne M.spot M.made nofun), get_set_ne M.pile n1, List.getElem?_set_self hl, get_set_ne M.code n3, get_set_ne M.houses n5, ⟨M.tabs.1, fun i t e => ?_⟩, ?_, M.own, M.apart⟩
  · obtain ⟨xs, a, b⟩ := M.tabs.2 i t e
    exact ⟨xs, a, get_set_ne b (n6 t (List.mem_of_getElem? e)).2⟩
  · obtain ⟨kvs, hd, hl, hm⟩ := M.dic.ex
    refine ⟨kvs, get_set_ne hd (kinds_ne hd M.made nofun), hl, fun x => ?_⟩
    have hs := hm x
    cases e : lookD (.int x) kvs with
    | none => rw [e] at hs; exact hs
    | some v =>
      rw [e] at hs
      obtain ⟨y, rfl, hy, hr⟩ := hs
      exact ⟨y, rfl, get_set_ne hy hr.2.2, hr⟩
/-- a new pile -/
theorem MC.newPile {s' : St} (M : MC C Fp n h p ac ah sp ap am d th s) (lt : ∀ a, Fp a → a < h.length) (e0 : s'.pile = []) (e2 : s'.made = s.made) (e3 : s'.pairs = s.pairs) :
    MC C (grow Fp h (h ++ [PO.lst []])) n ((h ++ [PO.lst []]).set p (.ins n_Machine (fM C ac ah sp h.length am s'))) p ac ah sp h.length am d th s' := by
  have M1 := (M.app (t := [PO.lst []])).wide (Nat.le_refl n) (Fp' := grow Fp h (h ++ [PO.lst []])) fun a f => .inl f
  obtain ⟨o1, o2, o3, o4, o5, o6, o7, o8⟩ := M1.own
  have hl := (List.getElem?_eq_some_iff.mp M1.ins).1
  have ne : ∀ (a : Nat) (xs : List PV), (h ++ [PO.lst []])[a]? = some (PO.lst xs) → a ≠ p := fun a xs e => kinds_ne e M1.ins nofun
  have nh : ∀ a, Fp a → a ≠ h.length := fun a f z => by have := lt a f; omega
  obtain ⟨f1, f2, f3, f4, f5, f6, f7, f8⟩ := M.own
  obtain ⟨n1, n2, n3, n4, n5, n6⟩ := M.apart
  refine ⟨List.getElem?_set_self hl, get_set_ne M1.spot (kinds_ne M1.spot M1.ins (by intro z; injection z with z; exact absurd z (by decide))), ?_, ?_, get_set_ne M1.code (ne _ _ M1.code), get_set_ne M1.houses (ne _ _ M1.houses), ⟨M1.tabs.1, fun i t e => ?_⟩, ?_, ⟨o1, o2, .inr ⟨Nat.le_refl _, by simp⟩, o4, o5, o6, o7, o8⟩, ⟨Ne.symm (nh _ f4), nh _ f5, n3, nh _ f6, n5, fun t ht => ⟨nh _ (f8 t ht), (n6 t ht).2⟩⟩⟩
  · rw [e0]; exact get_set_ne get_new (ne _ _ get_new)
  · rw [e2]; exact get_set_ne M1.made (ne _ _ M1.made)
  · obtain ⟨xs, a, b⟩ := M1.tabs.2 i t e
    exact ⟨xs, a, get_set_ne b (ne _ _ b)⟩
  · rw [e3]
    obtain ⟨kvs, hd, hl, hm⟩ := (M.app (t := [PO.lst []])).dic.ex
    refine ⟨kvs, get_set_ne hd (kinds_ne hd M1.ins nofun), hl, fun x => ?_⟩
    have hs := hm x
    cases e : lookD (.int x) kvs with
    | none => rw [e] at hs; exact hs
    | some v =>
      rw [e] at hs
      obtain ⟨y, rfl, hy, hr⟩ := hs
      exact ⟨y, rfl, get_set_ne hy (ne _ _ hy), .inl hr.1, nh _ hr.1, hr.2.2⟩
end
end Py

set_option Elab.async false
set_option linter.all false
set_option maxRecDepth 100000
set_option maxHeartbeats 4000000
/-! The machine, over the reading: places, ends. -/
namespace Py
open PySem
section
variable {C : Cf} {ac ah sp ap am : Nat} {s : St}
theorem pt_ended {r : PV} : PO.ins n_Machine (putN n_ended r (fM C ac ah sp ap am s)) = PO.ins n_Machine (fM C ac ah sp ap am { s with ended := r }) := rfl
theorem pt_pile {x : Nat} : PO.ins n_Machine (putN n_pile (.ref x) (fM C ac ah sp ap am s)) = PO.ins n_Machine (fM C ac ah sp x am s) := rfl
theorem pt_counted {r : Int} : PO.ins n_Machine (putN n_counted (.int r) (fM C ac ah sp ap am s)) = PO.ins n_Machine (fM C ac ah sp ap am { s with counted := r }) := rfl
theorem pt_sought {r : Int} : PO.ins n_Machine (putN n_sought (.int r) (fM C ac ah sp ap am s)) = PO.ins n_Machine (fM C ac ah sp ap am { s with sought := r }) := rfl
theorem pt_met {r : Int} : PO.ins n_Machine (putN n_met (.int r) (fM C ac ah sp ap am s)) = PO.ins n_Machine (fM C ac ah sp ap am { s with met := r }) := rfl
theorem pt_gone {r : Int} : PO.ins n_Machine (putN n_gone (.int r) (fM C ac ah sp ap am s)) = PO.ins n_Machine (fM C ac ah sp ap am { s with gone := r }) := rfl
theorem fM_len : (fM C ac ah sp ap am s).length < 900 := by show 12 < 900; omega
end
/-- what moves is the machine's own -/
structure Mv (Fp : Nat → Prop) (h h' : PH) : Prop where
  le : h.length ≤ h'.length
  at_ : ∀ a o, ¬ Fp a → h[a]? = some o → h'[a]? = some o
theorem Mv.trans {Fp : Nat → Prop} {h h1 h2 : PH} (a : Mv Fp h h1) (b : Mv (grow Fp h h1) h1 h2) : Mv Fp h h2 :=
  ⟨Nat.le_trans a.le b.le, fun x o n e => b.at_ x o (fun g => g.elim n fun g => by have := (List.getElem?_eq_some_iff.mp e).1; omega) (a.at_ x o n e)⟩
theorem Mv.of_stays {Fp : Nat → Prop} {D : List Nat} {h h' : PH} (s : Stays D h h') (o : ∀ x ∈ D, Fp x) : Mv Fp h h' := ⟨s.le, fun a u n e => s.at_ a u (fun z => n (o a z)) e⟩
theorem Mv.refl {Fp : Nat → Prop} {h : PH} : Mv Fp h h := ⟨Nat.le_refl _, fun _ _ _ e => e⟩
theorem grow_trans {Fp : Nat → Prop} {h h1 h2 : PH} (l1 : h.length ≤ h1.length) (l2 : h1.length ≤ h2.length) : ∀ a, grow (grow Fp h h1) h1 h2 a → grow Fp h h2 a := fun a g => by
  rcases g with (g | g) | g
  · exact .inl g
  · exact .inr ⟨g.1, by omega⟩
  · exact .inr ⟨by omega, g.2⟩
theorem grow_lt {Fp : Nat → Prop} {h h' : PH} (lt : ∀ a, Fp a → a < h.length) (l : h.length ≤ h'.length) : ∀ a, grow Fp h h' a → a < h'.length := fun a g => by
  rcases g with g | g
  · have := lt a g; omega
  · exact g.2
def setP (m : Int → List (Int × Int)) (s : Int) (row : List (Int × Int)) : Int → List (Int × Int) := fun x => if x = s then row else m x
section
variable {C : Cf} {Fp : Nat → Prop} {n k : Nat} {h : PH} {p ac ah sp ap am d : Nat} {th : List Nat} {s : St} {Q : KQ} {X : KX}
theorem MC.places {h' : PH} {n' : Nat} {m' : Int → List (Int × Int)} (M : MC C Fp n h p ac ah sp ap am d th s) (lt : ∀ a, Fp a → a < h.length) (st : Stays [d] h h')
    (D : ∀ R' : Nat → Prop, (∀ a, (Fp a ∧ a ≠ ap ∧ a ≠ am) → R' a) → (∀ a, h.length ≤ a → a < h'.length → R' a) → Dic R' n' h' d m') : MC C (grow Fp h h') n' h' p ac ah sp ap am d th { s with pairs := m' } := by
  obtain ⟨kvs, hd, _⟩ := M.dic.ex
  obtain ⟨f1, f2, f3, f4, f5, f6, f7, f8⟩ := M.own
  have nd : ∀ (a : Nat) (o : PO), h[a]? = some o → (∀ kvs, o ≠ .dic kvs) → h'[a]? = some o := fun a o e n => st.at_ a o (fun z => by rw [List.mem_singleton.mp z, hd] at e; exact n kvs (Option.some.inj e).symm) e
  refine ⟨nd _ _ M.ins nofun, nd _ _ M.spot nofun, nd _ _ M.pile nofun, nd _ _ M.made nofun, nd _ _ M.code nofun, nd _ _ M.houses nofun, ⟨M.tabs.1, fun i t e => ?_⟩, ?_, ⟨.inl f1, .inl f2, .inl f3, .inl f4, .inl f5, .inl f6, .inl f7, fun t ht => .inl (f8 t ht)⟩, M.apart⟩
  · obtain ⟨xs, a, b⟩ := M.tabs.2 i t e
    exact ⟨xs, a, nd _ _ b nofun⟩
  · exact D _ (fun a r => ⟨.inl r.1, r.2⟩) fun a l1 l2 => ⟨.inr ⟨l1, l2⟩, fun z => by have := lt _ f3; omega, fun z => by have := lt _ f4; omega⟩
theorem s_over {r : PV} (M : MC C Fp n h p ac ah sp ap am d th s) (q : Q .non ((h ++ [PO.lst []]).set p (.ins n_Machine (fM C ac ah sp h.length am { s with ended := r })))) : callS sgT (k + 1) (.fn n_Machine_over) [.ref p, r] h Q X := by
  have hl := (List.getElem?_eq_some_iff.mp M.ins).1
  rw [call_in (d := d_Machine_over) rfl rfl]
  simp only [evB, evS, evE, evEs, evO, evC, evT, evG, evGs, bAdd, bAddT, bSub, bMulL, bMulR, bDivL, bModL, cLt, cLe, cGt, cGe, cIs, cNot, iT0, iT1, fMin, fMax, fAbs, fLenT, tyT, tyI, tyB, tyS, truB, truI, ex_int, ex_bl, ex_tup, ex_some, ex_cons, eq_self, ex_var, eq_int, ne_int, eq_lit, ne_lit, startL, List.map_cons, List.map_nil, List.cons_append, List.nil_append, List.length_cons, List.length_nil, List.replicate, List.getElem?_cons_zero, List.getElem?_cons_succ, List.set_cons_zero, List.set_cons_succ, lenTs, Int.reduceToNat, Int.reducePow, Int.reduceSub, Int.reduceAdd, Int.reduceMul, Int.reduceNeg, Int.reduceLT, Int.reduceLE, Int.reduceEq, Nat.reduceLT, Nat.reduceLeDiff, Nat.reduceAdd, Nat.reduceSub, Nat.reducePow, bPowL, SZ, tyOf, evI, items_ref, items_tup, live_ref, live_tup, lstOf_new, true_and, and_true, ne_eq, not_true_eq_false, not_false_eq_true, Int.cast_ofNat_Int, decide_eq_true_eq, if_true, if_false, ite_true, ite_false, List.nil_append, isB, String.reduceBEq, String.reduceEq, decide_true, decide_false, Bool.false_eq_true, Bool.or_false, Bool.and_false, Bool.or_true, Bool.and_true, Bool.true_and, Bool.false_and, Bool.not_true, Bool.not_false, ite_true, ite_false, reduceIte, Bool.true_or, Bool.false_or, gt_iff_lt, ge_iff_le, iM1, iM1', iM2, cut_last, cut_last2, slT, fTupL, fTupT, fListL, fInt, fIntB, wipe0, wipe1, tNs, tsNs, inT, isBl, notBl, List.all_cons, List.all_nil, List.any_cons, List.any_nil, flP, eqP, isBlB, notRef, lit_beq, List.append_nil, List.not_mem_nil, isNonB, Int.neg_neg, Int.reduceNegSucc, d_Machine_over, b_Machine_over, wr_ n_ended rfl M.ins, pt_ended, List.length_set]
  have e1 : (h.set p (PO.ins n_Machine (fM C ac ah sp ap am { s with ended := r })) ++ [PO.lst []])[p]? = some (.ins n_Machine (fM C ac ah sp ap am { s with ended := r })) := get_app (List.getElem?_set_self hl)
  rw [wr_ n_pile rfl e1, pt_pile, List.set_append_left _ _ (by simpa using hl), List.set_set, ← List.set_append_left _ _ hl]
  exact q
/-- a word's block -/
def TabIs (C : Cf) (house word bb : Int) : Prop := ∃ xs, atI C.tabs house = some xs ∧ atI xs word = some (.int bb)
inductive LookR (C : Cf) (s : St) (site word house : Int) : St → Int → Prop
  | plain {bb : Int} : C.keeps = false → TabIs C house word bb → LookR C s site word house { s with sought := s.sought + 1 } bb
  | hit {bb : Int} : C.keeps = true → found house (s.pairs site) = .int bb → LookR C s site word house { s with met := s.met + 1, pairs := setP s.pairs site (front house (s.pairs site)) } bb
  | miss {bb : Int} : C.keeps = true → found house (s.pairs site) = .non → TabIs C house word bb → LookR C s site word house { s with sought := s.sought + 1, pairs := setP s.pairs site (((house, bb) :: front house (s.pairs site)).take 2) } bb
theorem atI_map {α β : Type} {f : α → β} {xs : List α} {i : Int} : atI (xs.map f) i = (atI xs i).map f := by
  unfold atI; rw [List.length_map]
  cases ixN xs.length i with
  | none => rfl
  | some j => exact List.getElem?_map
theorem atI_len {α β : Type} {xs : List α} {ys : List β} {i : Int} {x : α} (e : atI xs i = some x) (l : xs.length = ys.length) : ∃ (j : Nat) (y : β), xs[j]? = some x ∧ ys[j]? = some y ∧ atI ys i = some y := by
  unfold atI at e ⊢
  rw [← l]
  cases q : ixN xs.length i with
  | none => rw [q] at e; cases e
  | some j =>
    rw [q] at e
    have hj := (List.getElem?_eq_some_iff.mp e).1
    exact ⟨j, ys[j], e, List.getElem?_eq_getElem (by omega), List.getElem?_eq_getElem (by omega)⟩
theorem s_block_for {site word house i bb : Int} {r : List PV} {s' : St} (M : MC C Fp n h p ac ah sp ap am d th s) (lt : ∀ a, Fp a → a < h.length) (hi : atI s.made i = some (.tup (.int house :: r))) (L : LookR C s site word house s' bb) (hn : n < 900000) (ok : ∀ x, okR (s.pairs x))
    (q : ∀ h', Mv Fp h h' → MC C (grow Fp h h') (n + 2) h' p ac ah sp ap am d th s' → Q (.int bb) h') : callS sgT (k + 2) (.fn n_Machine_block_for) [.ref p, .int site, .int word, .tup [.str "thing", .int i]] h Q X := by
  rw [call_in (d := d_Machine_block_for) rfl rfl]
  simp only [evB, evS, evE, evEs, evO, evC, evT, evG, evGs, bAdd, bAddT, bSub, bMulL, bMulR, bDivL, bModL, cLt, cLe, cGt, cGe, cIs, cNot, iT0, iT1, fMin, fMax, fAbs, fLenT, tyT, tyI, tyB, tyS, truB, truI, ex_int, ex_bl, ex_tup, ex_some, ex_cons, eq_self, ex_var, eq_int, ne_int, eq_lit, ne_lit, startL, List.map_cons, List.map_nil, List.cons_append, List.nil_append, List.length_cons, List.length_nil, List.replicate, List.getElem?_cons_zero, List.getElem?_cons_succ, List.set_cons_zero, List.set_cons_succ, lenTs, Int.reduceToNat, Int.reducePow, Int.reduceSub, Int.reduceAdd, Int.reduceMul, Int.reduceNeg, Int.reduceLT, Int.reduceLE, Int.reduceEq, Nat.reduceLT, Nat.reduceLeDiff, Nat.reduceAdd, Nat.reduceSub, Nat.reducePow, bPowL, SZ, tyOf, evI, items_ref, items_tup, live_ref, live_tup, lstOf_new, true_and, and_true, ne_eq, not_true_eq_false, not_false_eq_true, Int.cast_ofNat_Int, decide_eq_true_eq, if_true, if_false, ite_true, ite_false, List.nil_append, isB, String.reduceBEq, String.reduceEq, decide_true, decide_false, Bool.false_eq_true, Bool.or_false, Bool.and_false, Bool.or_true, Bool.and_true, Bool.true_and, Bool.false_and, Bool.not_true, Bool.not_false, ite_true, ite_false, reduceIte, Bool.true_or, Bool.false_or, gt_iff_lt, ge_iff_le, iM1, iM1', iM2, cut_last, cut_last2, slT, fTupL, fTupT, fListL, fInt, fIntB, wipe0, wipe1, tNs, tsNs, inT, isBl, notBl, List.all_cons, List.all_nil, List.any_cons, List.any_nil, flP, eqP, isBlB, notRef, lit_beq, List.append_nil, List.not_mem_nil, isNonB, Int.neg_neg, Int.reduceNegSucc, d_Machine_block_for, b_Machine_block_for, rd_made M.ins, rd_keeps M.ins, rd_spots M.ins]
  rw [iRef]
  refine ⟨_, lst_got M.made, _, hi, ?_⟩
  simp only [evB, evS, evE, evEs, evO, evC, evT, evG, evGs, bAdd, bAddT, bSub, bMulL, bMulR, bDivL, bModL, cLt, cLe, cGt, cGe, cIs, cNot, iT0, iT1, fMin, fMax, fAbs, fLenT, tyT, tyI, tyB, tyS, truB, truI, ex_int, ex_bl, ex_tup, ex_some, ex_cons, eq_self, ex_var, eq_int, ne_int, eq_lit, ne_lit, startL, List.map_cons, List.map_nil, List.cons_append, List.nil_append, List.length_cons, List.length_nil, List.replicate, List.getElem?_cons_zero, List.getElem?_cons_succ, List.set_cons_zero, List.set_cons_succ, lenTs, Int.reduceToNat, Int.reducePow, Int.reduceSub, Int.reduceAdd, Int.reduceMul, Int.reduceNeg, Int.reduceLT, Int.reduceLE, Int.reduceEq, Nat.reduceLT, Nat.reduceLeDiff, Nat.reduceAdd, Nat.reduceSub, Nat.reducePow, bPowL, SZ, tyOf, evI, items_ref, items_tup, live_ref, live_tup, lstOf_new, true_and, and_true, ne_eq, not_true_eq_false, not_false_eq_true, Int.cast_ofNat_Int, decide_eq_true_eq, if_true, if_false, ite_true, ite_false, List.nil_append, isB, String.reduceBEq, String.reduceEq, decide_true, decide_false, Bool.false_eq_true, Bool.or_false, Bool.and_false, Bool.or_true, Bool.and_true, Bool.true_and, Bool.false_and, Bool.not_true, Bool.not_false, ite_true, ite_false, reduceIte, Bool.true_or, Bool.false_or, gt_iff_lt, ge_iff_le, iM1, iM1', iM2, cut_last, cut_last2, slT, fTupL, fTupT, fListL, fInt, fIntB, wipe0, wipe1, tNs, tsNs, inT, isBl, notBl, List.all_cons, List.all_nil, List.any_cons, List.any_nil, flP, eqP, isBlB, notRef, lit_beq, List.append_nil, List.not_mem_nil, isNonB, Int.neg_neg, Int.reduceNegSucc]
  -- the look into the table
  have tab : ∀ (h1 : PH) (s1 : St) (Fp1 : Nat → Prop) (n1 : Nat) (K : KQ), MC C Fp1 n1 h1 p ac ah sp ap am d th s1 → TabIs C house word bb → K (.int bb) h1 → idxV (.ref ah) (.int house) h1 fun x h2 => idxV x (.int word) h2 K := by
    intro h1 s1 Fp1 n1 K M1 ⟨xs, t1, t2⟩ hK
    rw [iRef]
    obtain ⟨j, t, e1, e2, e3⟩ := atI_len t1 M1.tabs.1.symm
    refine ⟨_, lst_got M1.houses, .ref t, by rw [atI_map, e3]; rfl, ?_⟩
    obtain ⟨ys, e4, e5⟩ := M1.tabs.2 j t e2
    rw [e1] at e4; cases e4
    rw [iRef]
    exact ⟨_, lst_got e5, _, t2, hK⟩
  obtain ⟨f1, f2, f3, f4, f5, f6, f7, f8⟩ := M.own
  rw [rd_keeps M.ins]
  simp only [evB, evS, evE, evEs, evO, evC, evT, evG, evGs, bAdd, bAddT, bSub, bMulL, bMulR, bDivL, bModL, cLt, cLe, cGt, cGe, cIs, cNot, iT0, iT1, fMin, fMax, fAbs, fLenT, tyT, tyI, tyB, tyS, truB, truI, ex_int, ex_bl, ex_tup, ex_some, ex_cons, eq_self, ex_var, eq_int, ne_int, eq_lit, ne_lit, startL, List.map_cons, List.map_nil, List.cons_append, List.nil_append, List.length_cons, List.length_nil, List.replicate, List.getElem?_cons_zero, List.getElem?_cons_succ, List.set_cons_zero, List.set_cons_succ, lenTs, Int.reduceToNat, Int.reducePow, Int.reduceSub, Int.reduceAdd, Int.reduceMul, Int.reduceNeg, Int.reduceLT, Int.reduceLE, Int.reduceEq, Nat.reduceLT, Nat.reduceLeDiff, Nat.reduceAdd, Nat.reduceSub, Nat.reducePow, bPowL, SZ, tyOf, evI, items_ref, items_tup, live_ref, live_tup, lstOf_new, true_and, and_true, ne_eq, not_true_eq_false, not_false_eq_true, Int.cast_ofNat_Int, decide_eq_true_eq, if_true, if_false, ite_true, ite_false, List.nil_append, isB, String.reduceBEq, String.reduceEq, decide_true, decide_false, Bool.false_eq_true, Bool.or_false, Bool.and_false, Bool.or_true, Bool.and_true, Bool.true_and, Bool.false_and, Bool.not_true, Bool.not_false, ite_true, ite_false, reduceIte, Bool.true_or, Bool.false_or, gt_iff_lt, ge_iff_le, iM1, iM1', iM2, cut_last, cut_last2, slT, fTupL, fTupT, fListL, fInt, fIntB, wipe0, wipe1, tNs, tsNs, inT, isBl, notBl, List.all_cons, List.all_nil, List.any_cons, List.any_nil, flP, eqP, isBlB, notRef, lit_beq, List.append_nil, List.not_mem_nil, isNonB, Int.neg_neg, Int.reduceNegSucc]
  cases L with
  | plain hk ht =>
    rw [if_neg (by rw [hk]; exact Bool.false_ne_true), ex_augF M.ins c_Machine rfl (show getN n_sought (fM C ac ah sp ap am s) = some (.int s.sought) from rfl), ag_add, ex_augW M.ins fM_len, pt_sought]
    have M1 := M.setIns (s' := { s with sought := s.sought + 1 }) rfl rfl rfl
    have mv : Mv Fp h (h.set p (.ins n_Machine (fM C ac ah sp ap am { s with sought := s.sought + 1 }))) := Mv.of_stays (D := [p]) (Stays.set (by simp)) (fun x hx => by rw [List.mem_singleton.mp hx]; exact f1)
    generalize h.set p (.ins n_Machine (fM C ac ah sp ap am { s with sought := s.sought + 1 })) = h1 at M1 mv ⊢
    rw [rd_by M1.ins]
    refine tab h1 _ _ _ _ M1 ht ?_
    rw [rd_keeps M1.ins]
    simp only [evB, evS, evE, evEs, evO, evC, evT, evG, evGs, bAdd, bAddT, bSub, bMulL, bMulR, bDivL, bModL, cLt, cLe, cGt, cGe, cIs, cNot, iT0, iT1, fMin, fMax, fAbs, fLenT, tyT, tyI, tyB, tyS, truB, truI, ex_int, ex_bl, ex_tup, ex_some, ex_cons, eq_self, ex_var, eq_int, ne_int, eq_lit, ne_lit, startL, List.map_cons, List.map_nil, List.cons_append, List.nil_append, List.length_cons, List.length_nil, List.replicate, List.getElem?_cons_zero, List.getElem?_cons_succ, List.set_cons_zero, List.set_cons_succ, lenTs, Int.reduceToNat, Int.reducePow, Int.reduceSub, Int.reduceAdd, Int.reduceMul, Int.reduceNeg, Int.reduceLT, Int.reduceLE, Int.reduceEq, Nat.reduceLT, Nat.reduceLeDiff, Nat.reduceAdd, Nat.reduceSub, Nat.reducePow, bPowL, SZ, tyOf, evI, items_ref, items_tup, live_ref, live_tup, lstOf_new, true_and, and_true, ne_eq, not_true_eq_false, not_false_eq_true, Int.cast_ofNat_Int, decide_eq_true_eq, if_true, if_false, ite_true, ite_false, List.nil_append, isB, String.reduceBEq, String.reduceEq, decide_true, decide_false, Bool.false_eq_true, Bool.or_false, Bool.and_false, Bool.or_true, Bool.and_true, Bool.true_and, Bool.false_and, Bool.not_true, Bool.not_false, ite_true, ite_false, reduceIte, Bool.true_or, Bool.false_or, gt_iff_lt, ge_iff_le, iM1, iM1', iM2, cut_last, cut_last2, slT, fTupL, fTupT, fListL, fInt, fIntB, wipe0, wipe1, tNs, tsNs, inT, isBl, notBl, List.all_cons, List.all_nil, List.any_cons, List.any_nil, flP, eqP, isBlB, notRef, lit_beq, List.append_nil, List.not_mem_nil, isNonB, Int.neg_neg, Int.reduceNegSucc]
    rw [if_neg (by rw [hk]; exact Bool.false_ne_true)]
    exact q _ mv (M1.wide (by omega) fun a f => .inl f)
  | hit hk hf =>
    rw [if_pos hk, rd_spots M.ins, ex_meth M.spot c_Places (show getM n_asked cPlaces.meths = some n_Places_asked from rfl)]
    refine s_asked M.spot M.dic (by omega) (ok site) fun h1 st D => ?_
    have M1 := M.places lt st D
    have mv : Mv Fp h h1 := Mv.of_stays st (fun x hx => by rw [List.mem_singleton.mp hx]; exact f7)
    rw [hf]
    simp only [evB, evS, evE, evEs, evO, evC, evT, evG, evGs, bAdd, bAddT, bSub, bMulL, bMulR, bDivL, bModL, cLt, cLe, cGt, cGe, cIs, cNot, iT0, iT1, fMin, fMax, fAbs, fLenT, tyT, tyI, tyB, tyS, truB, truI, ex_int, ex_bl, ex_tup, ex_some, ex_cons, eq_self, ex_var, eq_int, ne_int, eq_lit, ne_lit, startL, List.map_cons, List.map_nil, List.cons_append, List.nil_append, List.length_cons, List.length_nil, List.replicate, List.getElem?_cons_zero, List.getElem?_cons_succ, List.set_cons_zero, List.set_cons_succ, lenTs, Int.reduceToNat, Int.reducePow, Int.reduceSub, Int.reduceAdd, Int.reduceMul, Int.reduceNeg, Int.reduceLT, Int.reduceLE, Int.reduceEq, Nat.reduceLT, Nat.reduceLeDiff, Nat.reduceAdd, Nat.reduceSub, Nat.reducePow, bPowL, SZ, tyOf, evI, items_ref, items_tup, live_ref, live_tup, lstOf_new, true_and, and_true, ne_eq, not_true_eq_false, not_false_eq_true, Int.cast_ofNat_Int, decide_eq_true_eq, if_true, if_false, ite_true, ite_false, List.nil_append, isB, String.reduceBEq, String.reduceEq, decide_true, decide_false, Bool.false_eq_true, Bool.or_false, Bool.and_false, Bool.or_true, Bool.and_true, Bool.true_and, Bool.false_and, Bool.not_true, Bool.not_false, ite_true, ite_false, reduceIte, Bool.true_or, Bool.false_or, gt_iff_lt, ge_iff_le, iM1, iM1', iM2, cut_last, cut_last2, slT, fTupL, fTupT, fListL, fInt, fIntB, wipe0, wipe1, tNs, tsNs, inT, isBl, notBl, List.all_cons, List.all_nil, List.any_cons, List.any_nil, flP, eqP, isBlB, notRef, lit_beq, List.append_nil, List.not_mem_nil, isNonB, Int.neg_neg, Int.reduceNegSucc]
    rw [ex_augF M1.ins c_Machine rfl (show getN n_met (fM C ac ah sp ap am _) = some (.int s.met) from rfl), ag_add, ex_augW M1.ins fM_len, pt_met]
    have M2 := M1.setIns (s' := { s with met := s.met + 1, pairs := setP s.pairs site (front house (s.pairs site)) }) rfl rfl rfl
    obtain ⟨g1, _⟩ := M1.own
    have mv2 : Mv (grow Fp h h1) h1 (h1.set p (.ins n_Machine (fM C ac ah sp ap am { s with met := s.met + 1, pairs := setP s.pairs site (front house (s.pairs site)) }))) := Mv.of_stays (D := [p]) (Stays.set (by simp)) (fun x hx => by rw [List.mem_singleton.mp hx]; exact g1)
    refine q _ (mv.trans mv2) (M2.wide (by omega) fun a f => ?_)
    rcases f with f | f
    · exact .inl f
    · exact .inr ⟨f.1, Nat.lt_of_lt_of_le f.2 (by simp)⟩
  | miss hk hf ht =>
    rw [if_pos hk, rd_spots M.ins, ex_meth M.spot c_Places (show getM n_asked cPlaces.meths = some n_Places_asked from rfl)]
    refine s_asked M.spot M.dic (by omega) (ok site) fun h1 st D => ?_
    have M1 := M.places lt st D
    have mv : Mv Fp h h1 := Mv.of_stays st (fun x hx => by rw [List.mem_singleton.mp hx]; exact f7)
    rw [hf]
    simp only [evB, evS, evE, evEs, evO, evC, evT, evG, evGs, bAdd, bAddT, bSub, bMulL, bMulR, bDivL, bModL, cLt, cLe, cGt, cGe, cIs, cNot, iT0, iT1, fMin, fMax, fAbs, fLenT, tyT, tyI, tyB, tyS, truB, truI, ex_int, ex_bl, ex_tup, ex_some, ex_cons, eq_self, ex_var, eq_int, ne_int, eq_lit, ne_lit, startL, List.map_cons, List.map_nil, List.cons_append, List.nil_append, List.length_cons, List.length_nil, List.replicate, List.getElem?_cons_zero, List.getElem?_cons_succ, List.set_cons_zero, List.set_cons_succ, lenTs, Int.reduceToNat, Int.reducePow, Int.reduceSub, Int.reduceAdd, Int.reduceMul, Int.reduceNeg, Int.reduceLT, Int.reduceLE, Int.reduceEq, Nat.reduceLT, Nat.reduceLeDiff, Nat.reduceAdd, Nat.reduceSub, Nat.reducePow, bPowL, SZ, tyOf, evI, items_ref, items_tup, live_ref, live_tup, lstOf_new, true_and, and_true, ne_eq, not_true_eq_false, not_false_eq_true, Int.cast_ofNat_Int, decide_eq_true_eq, if_true, if_false, ite_true, ite_false, List.nil_append, isB, String.reduceBEq, String.reduceEq, decide_true, decide_false, Bool.false_eq_true, Bool.or_false, Bool.and_false, Bool.or_true, Bool.and_true, Bool.true_and, Bool.false_and, Bool.not_true, Bool.not_false, ite_true, ite_false, reduceIte, Bool.true_or, Bool.false_or, gt_iff_lt, ge_iff_le, iM1, iM1', iM2, cut_last, cut_last2, slT, fTupL, fTupT, fListL, fInt, fIntB, wipe0, wipe1, tNs, tsNs, inT, isBl, notBl, List.all_cons, List.all_nil, List.any_cons, List.any_nil, flP, eqP, isBlB, notRef, lit_beq, List.append_nil, List.not_mem_nil, isNonB, Int.neg_neg, Int.reduceNegSucc]
    rw [ex_augF M1.ins c_Machine rfl (show getN n_sought (fM C ac ah sp ap am _) = some (.int s.sought) from rfl), ag_add, ex_augW M1.ins fM_len, pt_sought]
    have M2 := M1.setIns (s' := { s with sought := s.sought + 1, pairs := setP s.pairs site (front house (s.pairs site)) }) rfl rfl rfl
    obtain ⟨g1, _⟩ := M1.own
    have mv2 : Mv (grow Fp h h1) h1 (h1.set p (.ins n_Machine (fM C ac ah sp ap am { s with sought := s.sought + 1, pairs := setP s.pairs site (front house (s.pairs site)) }))) := Mv.of_stays (D := [p]) (Stays.set (by simp)) (fun x hx => by rw [List.mem_singleton.mp hx]; exact g1)
    have lt1 := grow_lt lt mv.le
    have mvt := mv.trans mv2
    have le1 := mv.le
    generalize hh2 : h1.set p (.ins n_Machine (fM C ac ah sp ap am { s with sought := s.sought + 1, pairs := setP s.pairs site (front house (s.pairs site)) })) = h2 at M2 mv2 mvt
    have hh2' : h1.set p (.ins n_Machine (fM C ac ah sp ap am { { s with pairs := fun x => if x = site then front house (s.pairs site) else s.pairs x } with sought := s.sought + 1 })) = h2 := hh2
    rw [hh2']
    have l12 : h2.length = h1.length := by rw [← hh2]; simp
    rw [rd_by M2.ins]
    refine tab h2 _ _ _ _ M2 ht ?_
    rw [rd_keeps M2.ins]
    simp only [evB, evS, evE, evEs, evO, evC, evT, evG, evGs, bAdd, bAddT, bSub, bMulL, bMulR, bDivL, bModL, cLt, cLe, cGt, cGe, cIs, cNot, iT0, iT1, fMin, fMax, fAbs, fLenT, tyT, tyI, tyB, tyS, truB, truI, ex_int, ex_bl, ex_tup, ex_some, ex_cons, eq_self, ex_var, eq_int, ne_int, eq_lit, ne_lit, startL, List.map_cons, List.map_nil, List.cons_append, List.nil_append, List.length_cons, List.length_nil, List.replicate, List.getElem?_cons_zero, List.getElem?_cons_succ, List.set_cons_zero, List.set_cons_succ, lenTs, Int.reduceToNat, Int.reducePow, Int.reduceSub, Int.reduceAdd, Int.reduceMul, Int.reduceNeg, Int.reduceLT, Int.reduceLE, Int.reduceEq, Nat.reduceLT, Nat.reduceLeDiff, Nat.reduceAdd, Nat.reduceSub, Nat.reducePow, bPowL, SZ, tyOf, evI, items_ref, items_tup, live_ref, live_tup, lstOf_new, true_and, and_true, ne_eq, not_true_eq_false, not_false_eq_true, Int.cast_ofNat_Int, decide_eq_true_eq, if_true, if_false, ite_true, ite_false, List.nil_append, isB, String.reduceBEq, String.reduceEq, decide_true, decide_false, Bool.false_eq_true, Bool.or_false, Bool.and_false, Bool.or_true, Bool.and_true, Bool.true_and, Bool.false_and, Bool.not_true, Bool.not_false, ite_true, ite_false, reduceIte, Bool.true_or, Bool.false_or, gt_iff_lt, ge_iff_le, iM1, iM1', iM2, cut_last, cut_last2, slT, fTupL, fTupT, fListL, fInt, fIntB, wipe0, wipe1, tNs, tsNs, inT, isBl, notBl, List.all_cons, List.all_nil, List.any_cons, List.any_nil, flP, eqP, isBlB, notRef, lit_beq, List.append_nil, List.not_mem_nil, isNonB, Int.neg_neg, Int.reduceNegSucc]
    rw [if_pos hk, rd_spots M2.ins, ex_meth M2.spot c_Places (show getM n_put cPlaces.meths = some n_Places_put from rfl)]
    have ok2 : ∀ x, (setP s.pairs site (front house (s.pairs site)) x).length ≤ 2 := fun x => by
      unfold setP
      split
      · exact okR_len (okR_front (ok site))
      · exact okR_len (ok x)
    refine s_put M2.spot M2.dic (by omega) ok2 fun h3 st3 D3 => ?_
    have M3 := M2.places (by rw [l12]; exact lt1) st3 D3
    obtain ⟨_, _, _, _, _, _, g7, _⟩ := M2.own
    have mv3 : Mv (grow Fp h h1) h2 h3 := Mv.of_stays st3 (fun x hx => by rw [List.mem_singleton.mp hx]; exact g7)
    have le3 := mv3.le
    have eP : (fun x => if x = site then ((house, bb) :: setP s.pairs site (front house (s.pairs site)) site).take 2 else setP s.pairs site (front house (s.pairs site)) x) = setP s.pairs site (((house, bb) :: front house (s.pairs site)).take 2) := by
      funext x
      unfold setP
      by_cases hx : x = site
      · rw [if_pos hx, if_pos hx, if_pos rfl]
      · rw [if_neg hx, if_neg hx, if_neg hx]
    have M3' : MC C (grow (grow Fp h h1) h2 h3) (n + 1 + 1) h3 p ac ah sp ap am d th { s with sought := s.sought + 1, pairs := setP s.pairs site (((house, bb) :: front house (s.pairs site)).take 2) } := by
      rw [← eP]; exact M3
    refine q _ (mvt.trans ⟨mv3.le, fun a o na e => mv3.at_ a o (fun g => na ?_) e⟩) (M3'.wide (by omega) fun a f => ?_)
    · rcases g with g | g
      · exact .inl g
      · exact .inr ⟨g.1, by omega⟩
    · rcases f with (f | f) | f
      · exact .inl f
      · exact .inr ⟨f.1, by omega⟩
      · exact .inr ⟨by omega, f.2⟩
end
end Py

set_option Elab.async false
set_option linter.all false
set_option maxRecDepth 100000
set_option maxHeartbeats 4000000
/-! The machine, over the reading: calls. -/
namespace Py
open PySem
def b_enter2 : B :=
  (.cons (.ife (.cmp .eq (.attr (.var 0) n_counted) (.attr (.var 0) n_bound)) (.cons (.exp (.meth (.var 0) n_over (.cons (.tup (.cons (.str "dry") .nil)) .nil)))
  (.cons .retN
  .nil)) .nil)
  (.cons (.augF (.var 0) n_counted .add (.int 1))
  (.cons (.ife (.cmp .gt (.bf .len (.cons (.attr (.var 0) n_pile) .nil)) (.glob n_MOST_WITHIN)) (.cons (.exp (.meth (.var 0) n_over (.cons (.tup (.cons (.str "deep") .nil)) .nil)))
  (.cons .retN
  .nil)) .nil)
  (.cons (.asg (.sub (.attr (.var 0) n_pile) (.neg (.int 1))) (.tup (.cons (.var 3) (.cons (.bin .add (.var 4) (.int 1)) (.cons (.var 5) (.cons (.slc (.var 6) .no (.so (.var 7))) .nil))))))
  (.cons (.exp (.bm .append (.attr (.var 0) n_pile) (.cons (.call n_entered (.cons (.idx (.attr (.var 0) n_code) (.var 9)) (.cons (.var 9) (.cons (.var 8) .nil)))) .nil)))
  .nil)))))
theorem enter_eq : b_Machine_enter =
  (.cons (.asg (.tup (.cons (.nm 3) (.cons (.nm 4) (.cons (.nm 5) (.cons (.nm 6) .nil))))) (.var 2))
  (.cons (.asg (.nm 7) (.bin .sub (.bf .len (.cons (.var 6) .nil)) (.idx (.var 1) (.neg (.int 1)))))
  (.cons (.asg (.nm 8) (.slc (.var 6) (.so (.var 7)) .no))
  (.cons (.ife (.cmp .eq (.idx (.var 1) (.int 0)) (.str "call")) (.cons (.asg (.nm 9) (.meth (.var 0) n_block_for (.cons (.idx (.var 1) (.int 1)) (.cons (.idx (.var 1) (.int 2)) (.cons (.idx (.var 8) (.int 0)) .nil)))))
  .nil) (.cons (.asg (.nm 9) (.idx (.var 1) (.int 1)))
  .nil))
  b_enter2)))) := rfl
/-- a pile's end -/
inductive EnterR (C : Cf) (s : St) (fs : List Fr) (b a : Int) (sl rest vals : List PV) (bb : Int) : St → Prop
  | dry : s.counted = C.bound → EnterR C s fs b a sl rest vals bb { s with pile := [], ended := .tup [.str "dry"] }
  | deep : s.counted ≠ C.bound → 40 < s.pile.length → EnterR C s fs b a sl rest vals bb { s with counted := s.counted + 1, pile := [], ended := .tup [.str "deep"] }
  | go {many rows : PV} {size : Int} : s.counted ≠ C.bound → s.pile.length ≤ 40 → atI C.code bb = some (.tup [many, .int size, rows]) → 0 ≤ size - vals.length → size - vals.length ≤ 900 → vals.length ≤ 900 →
      EnterR C s fs b a sl rest vals bb { s with counted := s.counted + 1, pile := fs ++ [⟨b, a + 1, sl, rest⟩, ⟨bb, 0, vals ++ List.replicate (size - vals.length).toNat .non, []⟩] }
section
variable {C : Cf} {Fp : Nat → Prop} {n k : Nat} {h : PH} {p ac ah sp ap am d : Nat} {th : List Nat} {s : St} {Q : KQ} {X : KX}
theorem s_entered {many rows : PV} {size num : Int} {vals : List PV} (h0 : 0 ≤ size - vals.length) (h1 : size - vals.length ≤ 900) (h2 : vals.length ≤ 900) (q : Q (frV num 0 (vals ++ List.replicate (size - vals.length).toNat .non) []) h) : callS sgT (k + 1) (.fn n_entered) [.tup [many, .int size, rows], .int num, .tup vals] h Q X := by
  rw [call_in (d := d_entered) rfl rfl]
  simp only [evB, evS, evE, evEs, evO, evC, evT, evG, evGs, bAdd, bAddT, bSub, bMulL, bMulR, bDivL, bModL, cLt, cLe, cGt, cGe, cIs, cNot, iT0, iT1, fMin, fMax, fAbs, fLenT, tyT, tyI, tyB, tyS, truB, truI, ex_int, ex_bl, ex_tup, ex_some, ex_cons, eq_self, ex_var, eq_int, ne_int, eq_lit, ne_lit, startL, List.map_cons, List.map_nil, List.cons_append, List.nil_append, List.length_cons, List.length_nil, List.replicate, List.getElem?_cons_zero, List.getElem?_cons_succ, List.set_cons_zero, List.set_cons_succ, lenTs, Int.reduceToNat, Int.reducePow, Int.reduceSub, Int.reduceAdd, Int.reduceMul, Int.reduceNeg, Int.reduceLT, Int.reduceLE, Int.reduceEq, Nat.reduceLT, Nat.reduceLeDiff, Nat.reduceAdd, Nat.reduceSub, Nat.reducePow, bPowL, SZ, tyOf, evI, items_ref, items_tup, live_ref, live_tup, lstOf_new, true_and, and_true, ne_eq, not_true_eq_false, not_false_eq_true, Int.cast_ofNat_Int, decide_eq_true_eq, if_true, if_false, ite_true, ite_false, List.nil_append, isB, String.reduceBEq, String.reduceEq, decide_true, decide_false, Bool.false_eq_true, Bool.or_false, Bool.and_false, Bool.or_true, Bool.and_true, Bool.true_and, Bool.false_and, Bool.not_true, Bool.not_false, ite_true, ite_false, reduceIte, Bool.true_or, Bool.false_or, gt_iff_lt, ge_iff_le, iM1, iM1', iM2, cut_last, cut_last2, slT, fTupL, fTupT, fListL, fInt, fIntB, wipe0, wipe1, tNs, tsNs, inT, isBl, notBl, List.all_cons, List.all_nil, List.any_cons, List.any_nil, flP, eqP, isBlB, notRef, lit_beq, List.append_nil, List.not_mem_nil, isNonB, Int.neg_neg, Int.reduceNegSucc, d_entered, b_entered]
  have e : (List.replicate (size - vals.length).toNat [PV.non]).flatten = List.replicate (size - vals.length).toNat PV.non := by
    generalize (size - vals.length).toNat = m
    induction m with
    | zero => rfl
    | succ m ih => rw [List.replicate_succ, List.replicate_succ, List.flatten_cons, ih]; rfl
  refine ⟨⟨nofun, by omega, by omega, by simp⟩, ?_⟩
  rw [e]
  exact ⟨by show _ ≤ 16777216; rw [List.length_replicate]; omega, q⟩
theorem ixN_last {m : Nat} : ixN (m + 1) (-1) = some m := by
  unfold ixN
  rw [if_neg (by omega), if_pos (by omega)]
  congr 1; omega
/-- the pile's last frame is put for -/
theorem set_last {α : Type} {xs : List α} {x y : α} : (xs ++ [x]).set xs.length y = xs ++ [y] := by
  rw [List.set_append_right _ _ (Nat.le_refl _), Nat.sub_self]; rfl
theorem enter_tail {row fr : PV} {fs : List Fr} {b a rt bb : Int} {sl rest vals : List PV} {s' : St} {ff : Fr} (M : MC C Fp n h p ac ah sp ap am d th s) (lt : ∀ a, Fp a → a < h.length) (hp : s.pile = fs ++ [ff]) (hc : cut (rest ++ vals) none (some rt) = rest) (E : EnterR C s fs b a sl rest vals bb s') (hl : s.pile.length < 1000)
    (q : ∀ h' ap', Mv Fp h h' → MC C (grow Fp h h') n h' p ac ah sp ap' am d th s' → Q .non h') :
    evB sgT (callS sgT (k + 1)) b_enter2 [some (.ref p), some row, some fr, some (.int b), some (.int a), some (.tup sl), some (.tup (rest ++ vals)), some (.int rt), some (.tup vals), some (.int bb)] h ⟨fun _ h' => Q .non h', Q, fun _ _ => False, fun x _ h' => X x h'⟩ := by
  obtain ⟨f1, f2, f3, f4, f5, f6, f7, f8⟩ := M.own
  -- the end by a word
  have over : ∀ (s1 : St) (h1 : PH) (w : String), MC C Fp n h1 p ac ah sp ap am d th s1 → Mv Fp h h1 → h1.length = h.length → (∀ h' ap', Mv Fp h h' → MC C (grow Fp h h') n h' p ac ah sp ap' am d th { s1 with pile := [], ended := .tup [.str (Str.ofString w)] } → Q .non h') →
      callS sgT (k + 1) (.fn n_Machine_over) [.ref p, .tup [.str (Str.ofString w)]] h1 (fun x h' => Q .non h') (fun x h' => X x h') := by
    intro s1 h1 w M1 mv l1 q
    have lt1 : ∀ a, Fp a → a < h1.length := fun a f => by rw [l1]; exact lt a f
    refine s_over M1 (q _ h1.length ?_ ?_)
    · refine mv.trans ⟨by simp, fun a o na e => ?_⟩
      have hne : a ≠ p := fun z => na (.inl (by rw [z]; exact f1))
      rw [List.getElem?_set_ne (Ne.symm hne)]
      exact get_app e
    · have M2 := M1.newPile (s' := { s1 with pile := [], ended := .tup [.str (Str.ofString w)] }) lt1 rfl rfl rfl
      refine M2.wide (Nat.le_refl _) fun a f => ?_
      rcases f with f | f
      · exact .inl f
      · exact .inr ⟨by omega, by simpa using f.2⟩
  unfold b_enter2
  simp only [evB, evS, evE, evEs, evO, evC, evT, evG, evGs, bAdd, bAddT, bSub, bMulL, bMulR, bDivL, bModL, cLt, cLe, cGt, cGe, cIs, cNot, iT0, iT1, fMin, fMax, fAbs, fLenT, tyT, tyI, tyB, tyS, truB, truI, ex_int, ex_bl, ex_tup, ex_some, ex_cons, eq_self, ex_var, eq_int, ne_int, eq_lit, ne_lit, startL, List.map_cons, List.map_nil, List.cons_append, List.nil_append, List.length_cons, List.length_nil, List.replicate, List.getElem?_cons_zero, List.getElem?_cons_succ, List.set_cons_zero, List.set_cons_succ, lenTs, Int.reduceToNat, Int.reducePow, Int.reduceSub, Int.reduceAdd, Int.reduceMul, Int.reduceNeg, Int.reduceLT, Int.reduceLE, Int.reduceEq, Nat.reduceLT, Nat.reduceLeDiff, Nat.reduceAdd, Nat.reduceSub, Nat.reducePow, bPowL, SZ, tyOf, evI, items_ref, items_tup, live_ref, live_tup, lstOf_new, true_and, and_true, ne_eq, not_true_eq_false, not_false_eq_true, Int.cast_ofNat_Int, decide_eq_true_eq, if_true, if_false, ite_true, ite_false, List.nil_append, isB, String.reduceBEq, String.reduceEq, decide_true, decide_false, Bool.false_eq_true, Bool.or_false, Bool.and_false, Bool.or_true, Bool.and_true, Bool.true_and, Bool.false_and, Bool.not_true, Bool.not_false, ite_true, ite_false, reduceIte, Bool.true_or, Bool.false_or, gt_iff_lt, ge_iff_le, iM1, iM1', iM2, cut_last, cut_last2, slT, fTupL, fTupT, fListL, fInt, fIntB, wipe0, wipe1, tNs, tsNs, inT, isBl, notBl, List.all_cons, List.all_nil, List.any_cons, List.any_nil, flP, eqP, isBlB, notRef, lit_beq, List.append_nil, List.not_mem_nil, isNonB, Int.neg_neg, Int.reduceNegSucc]
  rw [rd_counted M.ins, rd_bound M.ins]
  simp only [evB, evS, evE, evEs, evO, evC, evT, evG, evGs, bAdd, bAddT, bSub, bMulL, bMulR, bDivL, bModL, cLt, cLe, cGt, cGe, cIs, cNot, iT0, iT1, fMin, fMax, fAbs, fLenT, tyT, tyI, tyB, tyS, truB, truI, ex_int, ex_bl, ex_tup, ex_some, ex_cons, eq_self, ex_var, eq_int, ne_int, eq_lit, ne_lit, startL, List.map_cons, List.map_nil, List.cons_append, List.nil_append, List.length_cons, List.length_nil, List.replicate, List.getElem?_cons_zero, List.getElem?_cons_succ, List.set_cons_zero, List.set_cons_succ, lenTs, Int.reduceToNat, Int.reducePow, Int.reduceSub, Int.reduceAdd, Int.reduceMul, Int.reduceNeg, Int.reduceLT, Int.reduceLE, Int.reduceEq, Nat.reduceLT, Nat.reduceLeDiff, Nat.reduceAdd, Nat.reduceSub, Nat.reducePow, bPowL, SZ, tyOf, evI, items_ref, items_tup, live_ref, live_tup, lstOf_new, true_and, and_true, ne_eq, not_true_eq_false, not_false_eq_true, Int.cast_ofNat_Int, decide_eq_true_eq, if_true, if_false, ite_true, ite_false, List.nil_append, isB, String.reduceBEq, String.reduceEq, decide_true, decide_false, Bool.false_eq_true, Bool.or_false, Bool.and_false, Bool.or_true, Bool.and_true, Bool.true_and, Bool.false_and, Bool.not_true, Bool.not_false, ite_true, ite_false, reduceIte, Bool.true_or, Bool.false_or, gt_iff_lt, ge_iff_le, iM1, iM1', iM2, cut_last, cut_last2, slT, fTupL, fTupT, fListL, fInt, fIntB, wipe0, wipe1, tNs, tsNs, inT, isBl, notBl, List.all_cons, List.all_nil, List.any_cons, List.any_nil, flP, eqP, isBlB, notRef, lit_beq, List.append_nil, List.not_mem_nil, isNonB, Int.neg_neg, Int.reduceNegSucc]
  cases E with
  | dry hd =>
    rw [if_pos hd, ex_meth M.ins c_Machine (show getM n_over cMachine.meths = some n_Machine_over from rfl)]
    exact over s h "dry" M Mv.refl rfl q
  | deep hd hd2 =>
    rw [if_neg hd, ex_augF M.ins c_Machine rfl (show getN n_counted (fM C ac ah sp ap am s) = some (.int s.counted) from rfl), ag_add, ex_augW M.ins fM_len, pt_counted]
    have M1 := M.setIns (s' := { s with counted := s.counted + 1 }) rfl rfl rfl
    have mv : Mv Fp h (h.set p (.ins n_Machine (fM C ac ah sp ap am { s with counted := s.counted + 1 }))) := Mv.of_stays (D := [p]) (Stays.set (by simp)) (fun x hx => by rw [List.mem_singleton.mp hx]; exact f1)
    have l1 : (h.set p (.ins n_Machine (fM C ac ah sp ap am { s with counted := s.counted + 1 }))).length = h.length := by simp
    generalize h.set p (.ins n_Machine (fM C ac ah sp ap am { s with counted := s.counted + 1 })) = h1 at M1 mv l1 ⊢
    rw [rd_pile M1.ins, fLenL]
    refine ⟨_, lst_got M1.pile, ?_⟩
    simp only [evB, evS, evE, evEs, evO, evC, evT, evG, evGs, bAdd, bAddT, bSub, bMulL, bMulR, bDivL, bModL, cLt, cLe, cGt, cGe, cIs, cNot, iT0, iT1, fMin, fMax, fAbs, fLenT, tyT, tyI, tyB, tyS, truB, truI, ex_int, ex_bl, ex_tup, ex_some, ex_cons, eq_self, ex_var, eq_int, ne_int, eq_lit, ne_lit, startL, List.map_cons, List.map_nil, List.cons_append, List.nil_append, List.length_cons, List.length_nil, List.replicate, List.getElem?_cons_zero, List.getElem?_cons_succ, List.set_cons_zero, List.set_cons_succ, lenTs, Int.reduceToNat, Int.reducePow, Int.reduceSub, Int.reduceAdd, Int.reduceMul, Int.reduceNeg, Int.reduceLT, Int.reduceLE, Int.reduceEq, Nat.reduceLT, Nat.reduceLeDiff, Nat.reduceAdd, Nat.reduceSub, Nat.reducePow, bPowL, SZ, tyOf, evI, items_ref, items_tup, live_ref, live_tup, lstOf_new, true_and, and_true, ne_eq, not_true_eq_false, not_false_eq_true, Int.cast_ofNat_Int, decide_eq_true_eq, if_true, if_false, ite_true, ite_false, List.nil_append, isB, String.reduceBEq, String.reduceEq, decide_true, decide_false, Bool.false_eq_true, Bool.or_false, Bool.and_false, Bool.or_true, Bool.and_true, Bool.true_and, Bool.false_and, Bool.not_true, Bool.not_false, ite_true, ite_false, reduceIte, Bool.true_or, Bool.false_or, gt_iff_lt, ge_iff_le, iM1, iM1', iM2, cut_last, cut_last2, slT, fTupL, fTupT, fListL, fInt, fIntB, wipe0, wipe1, tNs, tsNs, inT, isBl, notBl, List.all_cons, List.all_nil, List.any_cons, List.any_nil, flP, eqP, isBlB, notRef, lit_beq, List.append_nil, List.not_mem_nil, isNonB, Int.neg_neg, Int.reduceNegSucc, k_WITHIN]
    rw [if_pos (by rw [List.length_map]; omega), ex_meth M1.ins c_Machine (show getM n_over cMachine.meths = some n_Machine_over from rfl)]
    exact over _ h1 "deep" M1 mv l1 q
  | @go many rows size hd hd2 hb z0 z1 z2 =>
    rw [if_neg hd, ex_augF M.ins c_Machine rfl (show getN n_counted (fM C ac ah sp ap am s) = some (.int s.counted) from rfl), ag_add, ex_augW M.ins fM_len, pt_counted]
    have M1 := M.setIns (s' := { s with counted := s.counted + 1 }) rfl rfl rfl
    have mv : Mv Fp h (h.set p (.ins n_Machine (fM C ac ah sp ap am { s with counted := s.counted + 1 }))) := Mv.of_stays (D := [p]) (Stays.set (by simp)) (fun x hx => by rw [List.mem_singleton.mp hx]; exact f1)
    have l1 : (h.set p (.ins n_Machine (fM C ac ah sp ap am { s with counted := s.counted + 1 }))).length = h.length := by simp
    generalize h.set p (.ins n_Machine (fM C ac ah sp ap am { s with counted := s.counted + 1 })) = h1 at M1 mv l1 ⊢
    rw [rd_pile M1.ins, fLenL]
    refine ⟨_, lst_got M1.pile, ?_⟩
    simp only [evB, evS, evE, evEs, evO, evC, evT, evG, evGs, bAdd, bAddT, bSub, bMulL, bMulR, bDivL, bModL, cLt, cLe, cGt, cGe, cIs, cNot, iT0, iT1, fMin, fMax, fAbs, fLenT, tyT, tyI, tyB, tyS, truB, truI, ex_int, ex_bl, ex_tup, ex_some, ex_cons, eq_self, ex_var, eq_int, ne_int, eq_lit, ne_lit, startL, List.map_cons, List.map_nil, List.cons_append, List.nil_append, List.length_cons, List.length_nil, List.replicate, List.getElem?_cons_zero, List.getElem?_cons_succ, List.set_cons_zero, List.set_cons_succ, lenTs, Int.reduceToNat, Int.reducePow, Int.reduceSub, Int.reduceAdd, Int.reduceMul, Int.reduceNeg, Int.reduceLT, Int.reduceLE, Int.reduceEq, Nat.reduceLT, Nat.reduceLeDiff, Nat.reduceAdd, Nat.reduceSub, Nat.reducePow, bPowL, SZ, tyOf, evI, items_ref, items_tup, live_ref, live_tup, lstOf_new, true_and, and_true, ne_eq, not_true_eq_false, not_false_eq_true, Int.cast_ofNat_Int, decide_eq_true_eq, if_true, if_false, ite_true, ite_false, List.nil_append, isB, String.reduceBEq, String.reduceEq, decide_true, decide_false, Bool.false_eq_true, Bool.or_false, Bool.and_false, Bool.or_true, Bool.and_true, Bool.true_and, Bool.false_and, Bool.not_true, Bool.not_false, ite_true, ite_false, reduceIte, Bool.true_or, Bool.false_or, gt_iff_lt, ge_iff_le, iM1, iM1', iM2, cut_last, cut_last2, slT, fTupL, fTupT, fListL, fInt, fIntB, wipe0, wipe1, tNs, tsNs, inT, isBl, notBl, List.all_cons, List.all_nil, List.any_cons, List.any_nil, flP, eqP, isBlB, notRef, lit_beq, List.append_nil, List.not_mem_nil, isNonB, Int.neg_neg, Int.reduceNegSucc, k_WITHIN]
    rw [if_neg (by rw [List.length_map]; omega), hc, rd_pile M1.ins]
    have ep : h1[ap]? = some (.lst (fs.map Fr.v ++ [ff.v])) := by rw [M1.pile, hp, List.map_append]; rfl
    rw [put_lst ep (show ixN (fs.map Fr.v ++ [ff.v]).length (-1) = some (fs.map Fr.v).length by rw [List.length_append]; exact ixN_last), set_last]
    have M2 := M1.setPile (pl := fs ++ [⟨b, a + 1, sl, rest⟩])
    have e2 : (fs ++ [(⟨b, a + 1, sl, rest⟩ : Fr)]).map Fr.v = fs.map Fr.v ++ [PV.tup [PV.int b, PV.int (a + 1), PV.tup sl, PV.tup rest]] := by rw [List.map_append]; rfl
    rw [e2] at M2
    have mv2 : Mv Fp h (h1.set ap (.lst (fs.map Fr.v ++ [PV.tup [PV.int b, PV.int (a + 1), PV.tup sl, PV.tup rest]]))) := mv.trans (Mv.of_stays (D := [ap]) (Stays.set (by simp)) (fun x hx => by rw [List.mem_singleton.mp hx]; exact .inl f3))
    have l2 : (h1.set ap (.lst (fs.map Fr.v ++ [PV.tup [PV.int b, PV.int (a + 1), PV.tup sl, PV.tup rest]]))).length = h.length := by simpa using l1
    generalize h1.set ap (.lst (fs.map Fr.v ++ [PV.tup [PV.int b, PV.int (a + 1), PV.tup sl, PV.tup rest]])) = h2 at M2 mv2 l2 ⊢
    rw [rd_pile M2.ins]
    refine ⟨ty_get M2.pile, ?_⟩
    rw [rd_code M2.ins, iRef]
    refine ⟨_, lst_got M2.code, _, hb, s_entered z0 z1 z2 ?_⟩
    rw [mApp]
    have hln : fs.length < 1000 := by rw [hp] at hl; simp at hl; omega
    refine ⟨_, M2.pile, by show _ < 16777216; rw [List.length_map, List.length_append]; simp; omega, ?_⟩
    have M3 := M2.setPile (pl := fs ++ [⟨b, a + 1, sl, rest⟩, ⟨bb, 0, vals ++ List.replicate (size - vals.length).toNat .non, []⟩])
    have e3 : (fs ++ [(⟨b, a + 1, sl, rest⟩ : Fr)]).map Fr.v ++ [frV bb 0 (vals ++ List.replicate (size - vals.length).toNat .non) []] = (fs ++ [(⟨b, a + 1, sl, rest⟩ : Fr), ⟨bb, 0, vals ++ List.replicate (size - vals.length).toNat .non, []⟩]).map Fr.v := by
      rw [List.map_append, List.map_append, List.append_assoc]; rfl
    rw [e3]
    exact q _ ap (mv2.trans (Mv.of_stays (D := [ap]) (Stays.set (by simp)) (fun x hx => by rw [List.mem_singleton.mp hx]; exact .inl f3))) (M3.wide (Nat.le_refl _) fun a f => .inl f)
theorem LookR.pile {site word house bb : Int} {s1 : St} (L : LookR C s site word house s1 bb) : s1.pile = s.pile ∧ s1.made = s.made := by cases L <;> exact ⟨rfl, rfl⟩
theorem cut_head {α : Type} {xs ys : List α} {i : Int} (e : i = (xs.length : Int)) : cut (xs ++ ys) none (some i) = xs := by
  rw [e, cut_to (by simp), List.take_left]
theorem cut_tail {α : Type} {xs ys : List α} {i : Int} (e : i = (xs.length : Int)) : cut (xs ++ ys) (some i) none = ys := by
  unfold cut sIx
  dsimp only
  rw [if_neg (by omega), show min i.toNat (xs ++ ys).length = xs.length by rw [List.length_append]; omega, List.drop_left, List.length_append, show xs.length + ys.length - xs.length = ys.length by omega, List.take_length]
/-- a call's row -/
theorem s_enter_call {site word i house bb b a : Int} {r : List PV} {fs : List Fr} {sl rest vals : List PV} {s1 s' : St} {ff : Fr} (M : MC C Fp n h p ac ah sp ap am d th s) (lt : ∀ a, Fp a → a < h.length) (hp : s.pile = fs ++ [ff]) (hz : rest.length + vals.length < 1000)
    (hi : atI s.made i = some (.tup (.int house :: r))) (L : LookR C s site word house s1 bb) (hn : n < 900000) (ok : ∀ x, okR (s.pairs x)) (E : EnterR C s1 fs b a sl rest (.tup [.str "thing", .int i] :: vals) bb s') (hl : s.pile.length < 1000)
    (q : ∀ h' ap', Mv Fp h h' → MC C (grow Fp h h') (n + 2) h' p ac ah sp ap' am d th s' → Q .non h') :
    callS sgT (k + 3) (.fn n_Machine_enter) [.ref p, .tup [.str "call", .int site, .int word, .int (vals.length + 1 : Nat)], frV b a sl (rest ++ .tup [.str "thing", .int i] :: vals)] h Q X := by
  rw [call_in (d := d_Machine_enter) rfl rfl]
  rw [show d_Machine_enter.body = b_Machine_enter from rfl, enter_eq]
  unfold frV
  simp only [evB, evS, evE, evEs, evO, evC, evT, evG, evGs, bAdd, bAddT, bSub, bMulL, bMulR, bDivL, bModL, cLt, cLe, cGt, cGe, cIs, cNot, iT0, iT1, fMin, fMax, fAbs, fLenT, tyT, tyI, tyB, tyS, truB, truI, ex_int, ex_bl, ex_tup, ex_some, ex_cons, eq_self, ex_var, eq_int, ne_int, eq_lit, ne_lit, startL, List.map_cons, List.map_nil, List.cons_append, List.nil_append, List.length_cons, List.length_nil, List.replicate, List.getElem?_cons_zero, List.getElem?_cons_succ, List.set_cons_zero, List.set_cons_succ, lenTs, Int.reduceToNat, Int.reducePow, Int.reduceSub, Int.reduceAdd, Int.reduceMul, Int.reduceNeg, Int.reduceLT, Int.reduceLE, Int.reduceEq, Nat.reduceLT, Nat.reduceLeDiff, Nat.reduceAdd, Nat.reduceSub, Nat.reducePow, bPowL, SZ, tyOf, evI, items_ref, items_tup, live_ref, live_tup, lstOf_new, true_and, and_true, ne_eq, not_true_eq_false, not_false_eq_true, Int.cast_ofNat_Int, decide_eq_true_eq, if_true, if_false, ite_true, ite_false, List.nil_append, isB, String.reduceBEq, String.reduceEq, decide_true, decide_false, Bool.false_eq_true, Bool.or_false, Bool.and_false, Bool.or_true, Bool.and_true, Bool.true_and, Bool.false_and, Bool.not_true, Bool.not_false, ite_true, ite_false, reduceIte, Bool.true_or, Bool.false_or, gt_iff_lt, ge_iff_le, iM1, iM1', iM2, cut_last, cut_last2, slT, fTupL, fTupT, fListL, fInt, fIntB, wipe0, wipe1, tNs, tsNs, inT, isBl, notBl, List.all_cons, List.all_nil, List.any_cons, List.any_nil, flP, eqP, isBlB, notRef, lit_beq, List.append_nil, List.not_mem_nil, isNonB, Int.neg_neg, Int.reduceNegSucc, d_Machine_enter]
  rw [iAt (show atI [PV.str (Str.ofString "call"), PV.int site, PV.int word, PV.int ((vals.length + 1 : Nat) : Int)] (-1) = some _ from rfl)]
  simp only [evB, evS, evE, evEs, evO, evC, evT, evG, evGs, bAdd, bAddT, bSub, bMulL, bMulR, bDivL, bModL, cLt, cLe, cGt, cGe, cIs, cNot, iT0, iT1, fMin, fMax, fAbs, fLenT, tyT, tyI, tyB, tyS, truB, truI, ex_int, ex_bl, ex_tup, ex_some, ex_cons, eq_self, ex_var, eq_int, ne_int, eq_lit, ne_lit, startL, List.map_cons, List.map_nil, List.cons_append, List.nil_append, List.length_cons, List.length_nil, List.replicate, List.getElem?_cons_zero, List.getElem?_cons_succ, List.set_cons_zero, List.set_cons_succ, lenTs, Int.reduceToNat, Int.reducePow, Int.reduceSub, Int.reduceAdd, Int.reduceMul, Int.reduceNeg, Int.reduceLT, Int.reduceLE, Int.reduceEq, Nat.reduceLT, Nat.reduceLeDiff, Nat.reduceAdd, Nat.reduceSub, Nat.reducePow, bPowL, SZ, tyOf, evI, items_ref, items_tup, live_ref, live_tup, lstOf_new, true_and, and_true, ne_eq, not_true_eq_false, not_false_eq_true, Int.cast_ofNat_Int, decide_eq_true_eq, if_true, if_false, ite_true, ite_false, List.nil_append, isB, String.reduceBEq, String.reduceEq, decide_true, decide_false, Bool.false_eq_true, Bool.or_false, Bool.and_false, Bool.or_true, Bool.and_true, Bool.true_and, Bool.false_and, Bool.not_true, Bool.not_false, ite_true, ite_false, reduceIte, Bool.true_or, Bool.false_or, gt_iff_lt, ge_iff_le, iM1, iM1', iM2, cut_last, cut_last2, slT, fTupL, fTupT, fListL, fInt, fIntB, wipe0, wipe1, tNs, tsNs, inT, isBl, notBl, List.all_cons, List.all_nil, List.any_cons, List.any_nil, flP, eqP, isBlB, notRef, lit_beq, List.append_nil, List.not_mem_nil, isNonB, Int.neg_neg, Int.reduceNegSucc]
  have e1 : ((rest ++ PV.tup [PV.str (Str.ofString "thing"), PV.int i] :: vals).length : Int) - ((vals.length + 1 : Nat) : Int) = (rest.length : Int) := by
    rw [List.length_append, List.length_cons]; omega
  rw [e1, cut_tail rfl, ex_meth M.ins c_Machine (show getM n_block_for cMachine.meths = some n_Machine_block_for from rfl), iAt (show atI [PV.str (Str.ofString "call"), PV.int site, PV.int word, PV.int ((vals.length + 1 : Nat) : Int)] 2 = some _ from rfl)]
  simp only [evB, evS, evE, evEs, evO, evC, evT, evG, evGs, bAdd, bAddT, bSub, bMulL, bMulR, bDivL, bModL, cLt, cLe, cGt, cGe, cIs, cNot, iT0, iT1, fMin, fMax, fAbs, fLenT, tyT, tyI, tyB, tyS, truB, truI, ex_int, ex_bl, ex_tup, ex_some, ex_cons, eq_self, ex_var, eq_int, ne_int, eq_lit, ne_lit, startL, List.map_cons, List.map_nil, List.cons_append, List.nil_append, List.length_cons, List.length_nil, List.replicate, List.getElem?_cons_zero, List.getElem?_cons_succ, List.set_cons_zero, List.set_cons_succ, lenTs, Int.reduceToNat, Int.reducePow, Int.reduceSub, Int.reduceAdd, Int.reduceMul, Int.reduceNeg, Int.reduceLT, Int.reduceLE, Int.reduceEq, Nat.reduceLT, Nat.reduceLeDiff, Nat.reduceAdd, Nat.reduceSub, Nat.reducePow, bPowL, SZ, tyOf, evI, items_ref, items_tup, live_ref, live_tup, lstOf_new, true_and, and_true, ne_eq, not_true_eq_false, not_false_eq_true, Int.cast_ofNat_Int, decide_eq_true_eq, if_true, if_false, ite_true, ite_false, List.nil_append, isB, String.reduceBEq, String.reduceEq, decide_true, decide_false, Bool.false_eq_true, Bool.or_false, Bool.and_false, Bool.or_true, Bool.and_true, Bool.true_and, Bool.false_and, Bool.not_true, Bool.not_false, ite_true, ite_false, reduceIte, Bool.true_or, Bool.false_or, gt_iff_lt, ge_iff_le, iM1, iM1', iM2, cut_last, cut_last2, slT, fTupL, fTupT, fListL, fInt, fIntB, wipe0, wipe1, tNs, tsNs, inT, isBl, notBl, List.all_cons, List.all_nil, List.any_cons, List.any_nil, flP, eqP, isBlB, notRef, lit_beq, List.append_nil, List.not_mem_nil, isNonB, Int.neg_neg, Int.reduceNegSucc]
  refine s_block_for M lt hi L hn ok fun h1 mv M1 => ?_
  have lt1 := grow_lt lt mv.le
  refine enter_tail M1 lt1 (by rw [L.pile.1]; exact hp) (cut_head rfl) E (by rw [L.pile.1]; exact hl) fun h2 ap' mv2 M2 => ?_
  exact q h2 ap' (mv.trans mv2) (M2.wide (Nat.le_refl _) (grow_trans mv.le mv2.le))
/-- a straight one's row -/
theorem s_enter_str {bb b a : Int} {fs : List Fr} {sl rest vals : List PV} {s' : St} {ff : Fr} (M : MC C Fp n h p ac ah sp ap am d th s) (lt : ∀ a, Fp a → a < h.length) (hp : s.pile = fs ++ [ff]) (hz : rest.length + vals.length < 1000)
    (E : EnterR C s fs b a sl rest vals bb s') (hl : s.pile.length < 1000)
    (q : ∀ h' ap', Mv Fp h h' → MC C (grow Fp h h') n h' p ac ah sp ap' am d th s' → Q .non h') :
    callS sgT (k + 2) (.fn n_Machine_enter) [.ref p, .tup [.str "straight", .int bb, .int (vals.length : Nat)], frV b a sl (rest ++ vals)] h Q X := by
  rw [call_in (d := d_Machine_enter) rfl rfl]
  rw [show d_Machine_enter.body = b_Machine_enter from rfl, enter_eq]
  unfold frV
  simp only [evB, evS, evE, evEs, evO, evC, evT, evG, evGs, bAdd, bAddT, bSub, bMulL, bMulR, bDivL, bModL, cLt, cLe, cGt, cGe, cIs, cNot, iT0, iT1, fMin, fMax, fAbs, fLenT, tyT, tyI, tyB, tyS, truB, truI, ex_int, ex_bl, ex_tup, ex_some, ex_cons, eq_self, ex_var, eq_int, ne_int, eq_lit, ne_lit, startL, List.map_cons, List.map_nil, List.cons_append, List.nil_append, List.length_cons, List.length_nil, List.replicate, List.getElem?_cons_zero, List.getElem?_cons_succ, List.set_cons_zero, List.set_cons_succ, lenTs, Int.reduceToNat, Int.reducePow, Int.reduceSub, Int.reduceAdd, Int.reduceMul, Int.reduceNeg, Int.reduceLT, Int.reduceLE, Int.reduceEq, Nat.reduceLT, Nat.reduceLeDiff, Nat.reduceAdd, Nat.reduceSub, Nat.reducePow, bPowL, SZ, tyOf, evI, items_ref, items_tup, live_ref, live_tup, lstOf_new, true_and, and_true, ne_eq, not_true_eq_false, not_false_eq_true, Int.cast_ofNat_Int, decide_eq_true_eq, if_true, if_false, ite_true, ite_false, List.nil_append, isB, String.reduceBEq, String.reduceEq, decide_true, decide_false, Bool.false_eq_true, Bool.or_false, Bool.and_false, Bool.or_true, Bool.and_true, Bool.true_and, Bool.false_and, Bool.not_true, Bool.not_false, ite_true, ite_false, reduceIte, Bool.true_or, Bool.false_or, gt_iff_lt, ge_iff_le, iM1, iM1', iM2, cut_last, cut_last2, slT, fTupL, fTupT, fListL, fInt, fIntB, wipe0, wipe1, tNs, tsNs, inT, isBl, notBl, List.all_cons, List.all_nil, List.any_cons, List.any_nil, flP, eqP, isBlB, notRef, lit_beq, List.append_nil, List.not_mem_nil, isNonB, Int.neg_neg, Int.reduceNegSucc, d_Machine_enter]
  rw [iAt (show atI [PV.str (Str.ofString "straight"), PV.int bb, PV.int ((vals.length : Nat) : Int)] (-1) = some _ from rfl)]
  simp only [evB, evS, evE, evEs, evO, evC, evT, evG, evGs, bAdd, bAddT, bSub, bMulL, bMulR, bDivL, bModL, cLt, cLe, cGt, cGe, cIs, cNot, iT0, iT1, fMin, fMax, fAbs, fLenT, tyT, tyI, tyB, tyS, truB, truI, ex_int, ex_bl, ex_tup, ex_some, ex_cons, eq_self, ex_var, eq_int, ne_int, eq_lit, ne_lit, startL, List.map_cons, List.map_nil, List.cons_append, List.nil_append, List.length_cons, List.length_nil, List.replicate, List.getElem?_cons_zero, List.getElem?_cons_succ, List.set_cons_zero, List.set_cons_succ, lenTs, Int.reduceToNat, Int.reducePow, Int.reduceSub, Int.reduceAdd, Int.reduceMul, Int.reduceNeg, Int.reduceLT, Int.reduceLE, Int.reduceEq, Nat.reduceLT, Nat.reduceLeDiff, Nat.reduceAdd, Nat.reduceSub, Nat.reducePow, bPowL, SZ, tyOf, evI, items_ref, items_tup, live_ref, live_tup, lstOf_new, true_and, and_true, ne_eq, not_true_eq_false, not_false_eq_true, Int.cast_ofNat_Int, decide_eq_true_eq, if_true, if_false, ite_true, ite_false, List.nil_append, isB, String.reduceBEq, String.reduceEq, decide_true, decide_false, Bool.false_eq_true, Bool.or_false, Bool.and_false, Bool.or_true, Bool.and_true, Bool.true_and, Bool.false_and, Bool.not_true, Bool.not_false, ite_true, ite_false, reduceIte, Bool.true_or, Bool.false_or, gt_iff_lt, ge_iff_le, iM1, iM1', iM2, cut_last, cut_last2, slT, fTupL, fTupT, fListL, fInt, fIntB, wipe0, wipe1, tNs, tsNs, inT, isBl, notBl, List.all_cons, List.all_nil, List.any_cons, List.any_nil, flP, eqP, isBlB, notRef, lit_beq, List.append_nil, List.not_mem_nil, isNonB, Int.neg_neg, Int.reduceNegSucc]
  have e1 : ((rest ++ vals).length : Int) - ((vals.length : Nat) : Int) = (rest.length : Int) := by
    rw [List.length_append]; omega
  rw [e1, cut_tail rfl]
  exact enter_tail M lt hp (cut_head rfl) E hl q
end
end Py

set_option Elab.async false
set_option linter.all false
set_option maxRecDepth 100000
set_option maxHeartbeats 4000000
/-! The machine, over the reading: ends, things. -/
namespace Py
open PySem
/-- a frame that may be compared -/
def okF (f : Fr) : Prop := flat f.v = true ∧ (dat f.v).canLay0 = true ∧ (dat f.v).depth ≤ 20
theorem okFs {fs : List Fr} (o : ∀ f ∈ fs, okF f) : flats (fs.map Fr.v) = true ∧ SeqAt.shaped (.list (dats (fs.map Fr.v))) = true := by
  have gen : flats (fs.map Fr.v) = true ∧ PyData.canLayAll0 (dats (fs.map Fr.v)) = true ∧ PyData.depthAll (dats (fs.map Fr.v)) ≤ 20 := by
    induction fs with
    | nil => exact ⟨rfl, rfl, Nat.zero_le _⟩
    | cons f r ih =>
      obtain ⟨a, b, c⟩ := ih fun g hg => o g (List.mem_cons_of_mem _ hg)
      obtain ⟨x, y, z⟩ := o f (List.mem_cons_self ..)
      exact ⟨by show (flat f.v && flats (r.map Fr.v)) = true; rw [x, a]; rfl, by show (PyData.canLay0 (dat f.v) && PyData.canLayAll0 _) = true; rw [y, b]; rfl, Nat.max_le.mpr ⟨z, c⟩⟩
  refine ⟨gen.1, ?_⟩
  unfold SeqAt.shaped
  show (PyData.canLayAll0 _ && decide (PyData.depthAll _ + 1 ≤ 64)) = true
  rw [gen.2.1, decide_eq_true (show PyData.depthAll (dats (fs.map Fr.v)) + 1 ≤ 64 by have := gen.2.2; omega)]; rfl
inductive BackR (s : St) (fs : List Fr) (v : PV) : St → Prop
  | on {gs : List Fr} {g : Fr} : fs = gs ++ [g] → g.st.length < 1000 → BackR s fs v { s with pile := gs ++ [⟨g.b, g.a, g.sl, g.st ++ [v]⟩] }
  | thing {i : Int} {house : PV} {r : List PV} : fs = [] → v = .tup [.str "thing", .int i] → atI s.made i = some (.tup (house :: r)) → BackR s fs v { s with pile := [], ended := .tup [.str "thing", house] }
  | value : fs = [] → ((∃ i, v = .int i) ∨ ∃ c, v = .bl c) → BackR s fs v { s with pile := [], ended := .tup [.str "value", v] }
section
variable {C : Cf} {Fp : Nat → Prop} {n k : Nat} {h : PH} {p ac ah sp ap am d : Nat} {th : List Nat} {s : St} {Q : KQ} {X : KX}
theorem s_leave {fs : List Fr} {f : Fr} {st : List PV} {v : PV} {s' : St} (M : MC C Fp n h p ac ah sp ap am d th s) (lt : ∀ a, Fp a → a < h.length) (hp : s.pile = fs ++ [f]) (hst : f.st = st ++ [v]) (o : ∀ f ∈ fs, okF f) (B : BackR s fs v s')
    (q : ∀ h' ap', Mv Fp h h' → MC C (grow Fp h h') n h' p ac ah sp ap' am d th s' → Q .non h') : callS sgT (k + 2) (.fn n_Machine_leave) [.ref p] h Q X := by
  obtain ⟨f1, f2, f3, f4, f5, f6, f7, f8⟩ := M.own
  rw [call_in (d := d_Machine_leave) rfl rfl]
  simp only [evB, evS, evE, evEs, evO, evC, evT, evG, evGs, bAdd, bAddT, bSub, bMulL, bMulR, bDivL, bModL, cLt, cLe, cGt, cGe, cIs, cNot, iT0, iT1, fMin, fMax, fAbs, fLenT, tyT, tyI, tyB, tyS, truB, truI, ex_int, ex_bl, ex_tup, ex_some, ex_cons, eq_self, ex_var, eq_int, ne_int, eq_lit, ne_lit, startL, List.map_cons, List.map_nil, List.cons_append, List.nil_append, List.length_cons, List.length_nil, List.replicate, List.getElem?_cons_zero, List.getElem?_cons_succ, List.set_cons_zero, List.set_cons_succ, lenTs, Int.reduceToNat, Int.reducePow, Int.reduceSub, Int.reduceAdd, Int.reduceMul, Int.reduceNeg, Int.reduceLT, Int.reduceLE, Int.reduceEq, Nat.reduceLT, Nat.reduceLeDiff, Nat.reduceAdd, Nat.reduceSub, Nat.reducePow, bPowL, SZ, tyOf, evI, items_ref, items_tup, live_ref, live_tup, lstOf_new, true_and, and_true, ne_eq, not_true_eq_false, not_false_eq_true, Int.cast_ofNat_Int, decide_eq_true_eq, if_true, if_false, ite_true, ite_false, List.nil_append, isB, String.reduceBEq, String.reduceEq, decide_true, decide_false, Bool.false_eq_true, Bool.or_false, Bool.and_false, Bool.or_true, Bool.and_true, Bool.true_and, Bool.false_and, Bool.not_true, Bool.not_false, ite_true, ite_false, reduceIte, Bool.true_or, Bool.false_or, gt_iff_lt, ge_iff_le, iM1, iM1', iM2, cut_last, cut_last2, slT, fTupL, fTupT, fListL, fInt, fIntB, wipe0, wipe1, tNs, tsNs, inT, isBl, notBl, List.all_cons, List.all_nil, List.any_cons, List.any_nil, flP, eqP, isBlB, notRef, lit_beq, List.append_nil, List.not_mem_nil, isNonB, Int.neg_neg, Int.reduceNegSucc, d_Machine_leave, b_Machine_leave]
  rw [rd_pile M.ins]
  have ep : h[ap]? = some (.lst (fs.map Fr.v ++ [f.v])) := by rw [M.pile, hp, List.map_append]; rfl
  refine ⟨ty_get ep, ?_⟩
  refine ⟨_, f.v, ep, by rw [List.length_append]; simp, ?_⟩
  rw [List.dropLast_concat]
  have M1 := M.setPile (pl := fs)
  have mv1 : Mv Fp h (h.set ap (.lst (fs.map Fr.v))) := Mv.of_stays (D := [ap]) (Stays.set (by simp)) (fun x hx => by rw [List.mem_singleton.mp hx]; exact f3)
  have l1 : (h.set ap (.lst (fs.map Fr.v))).length = h.length := by simp
  generalize h.set ap (.lst (fs.map Fr.v)) = h1 at M1 mv1 l1 ⊢
  dsimp only
  have ev : f.v = .tup [.int f.b, .int f.a, .tup f.sl, .tup (st ++ [v])] := by unfold Fr.v frV; rw [hst]
  rw [ev, iAt (show atI [PV.int f.b, PV.int f.a, PV.tup f.sl, PV.tup (st ++ [v])] 3 = some _ from rfl)]
  simp only [evB, evS, evE, evEs, evO, evC, evT, evG, evGs, bAdd, bAddT, bSub, bMulL, bMulR, bDivL, bModL, cLt, cLe, cGt, cGe, cIs, cNot, iT0, iT1, fMin, fMax, fAbs, fLenT, tyT, tyI, tyB, tyS, truB, truI, ex_int, ex_bl, ex_tup, ex_some, ex_cons, eq_self, ex_var, eq_int, ne_int, eq_lit, ne_lit, startL, List.map_cons, List.map_nil, List.cons_append, List.nil_append, List.length_cons, List.length_nil, List.replicate, List.getElem?_cons_zero, List.getElem?_cons_succ, List.set_cons_zero, List.set_cons_succ, lenTs, Int.reduceToNat, Int.reducePow, Int.reduceSub, Int.reduceAdd, Int.reduceMul, Int.reduceNeg, Int.reduceLT, Int.reduceLE, Int.reduceEq, Nat.reduceLT, Nat.reduceLeDiff, Nat.reduceAdd, Nat.reduceSub, Nat.reducePow, bPowL, SZ, tyOf, evI, items_ref, items_tup, live_ref, live_tup, lstOf_new, true_and, and_true, ne_eq, not_true_eq_false, not_false_eq_true, Int.cast_ofNat_Int, decide_eq_true_eq, if_true, if_false, ite_true, ite_false, List.nil_append, isB, String.reduceBEq, String.reduceEq, decide_true, decide_false, Bool.false_eq_true, Bool.or_false, Bool.and_false, Bool.or_true, Bool.and_true, Bool.true_and, Bool.false_and, Bool.not_true, Bool.not_false, ite_true, ite_false, reduceIte, Bool.true_or, Bool.false_or, gt_iff_lt, ge_iff_le, iM1, iM1', iM2, cut_last, cut_last2, slT, fTupL, fTupT, fListL, fInt, fIntB, wipe0, wipe1, tNs, tsNs, inT, isBl, notBl, List.all_cons, List.all_nil, List.any_cons, List.any_nil, flP, eqP, isBlB, notRef, lit_beq, List.append_nil, List.not_mem_nil, isNonB, Int.neg_neg, Int.reduceNegSucc]
  rw [rd_pile M1.ins]
  have oo := okFs o
  refine ne_lists (lst_got (get_app M1.pile)) lstOf_new oo.1 rfl oo.2 rfl ?_
  have M2 := M1.app (t := [PO.lst []])
  have mv2 : Mv Fp h (h1 ++ [PO.lst []]) := mv1.trans (Mv.of_stays (D := []) Stays.app (by simp))
  have l2 : (h1 ++ [PO.lst []]).length = h.length + 1 := by simp [l1]
  generalize h1 ++ [PO.lst []] = h2 at M2 mv2 l2 ⊢
  have lt2 : ∀ a, Fp a → a < h2.length := fun a f => by have := lt a f; omega
  have over : ∀ (w : PV), (∀ h' ap', Mv Fp h h' → MC C (grow Fp h h') n h' p ac ah sp ap' am d th { s with pile := [], ended := w } → Q .non h') →
      callS sgT (k + 1) (.fn n_Machine_over) [.ref p, w] h2 (fun x h' => Q .non h') (fun x h' => X x h') := by
    intro w q
    refine s_over M2 (q _ h2.length ?_ ?_)
    · refine mv2.trans ⟨by simp, fun a o na e => ?_⟩
      have hne : a ≠ p := fun z => na (.inl (by rw [z]; exact f1))
      rw [List.getElem?_set_ne (Ne.symm hne)]
      exact get_app e
    · have M3 := M2.newPile (s' := { s with pile := [], ended := w }) lt2 rfl rfl rfl
      refine M3.wide (Nat.le_refl _) fun a f => ?_
      rcases f with f | f
      · exact .inl f
      · exact .inr ⟨by omega, by simpa using f.2⟩
  cases B with
  | @on gs g hg hgl =>
    subst hg
    have nz : PyData.eqvAll (dats ((gs ++ [g]).map Fr.v)) (dats []) = false := by
      cases gs <;> rfl
    rw [nz, if_pos (by rfl), rd_pile M2.ins, iRef]
    have ep2 : h2[ap]? = some (.lst (gs.map Fr.v ++ [g.v])) := by rw [M2.pile, List.map_append]; rfl
    refine ⟨_, lst_got ep2, _, at_last, ?_⟩
    unfold Fr.v frV
    simp only [evB, evS, evE, evEs, evO, evC, evT, evG, evGs, bAdd, bAddT, bSub, bMulL, bMulR, bDivL, bModL, cLt, cLe, cGt, cGe, cIs, cNot, iT0, iT1, fMin, fMax, fAbs, fLenT, tyT, tyI, tyB, tyS, truB, truI, ex_int, ex_bl, ex_tup, ex_some, ex_cons, eq_self, ex_var, eq_int, ne_int, eq_lit, ne_lit, startL, List.map_cons, List.map_nil, List.cons_append, List.nil_append, List.length_cons, List.length_nil, List.replicate, List.getElem?_cons_zero, List.getElem?_cons_succ, List.set_cons_zero, List.set_cons_succ, lenTs, Int.reduceToNat, Int.reducePow, Int.reduceSub, Int.reduceAdd, Int.reduceMul, Int.reduceNeg, Int.reduceLT, Int.reduceLE, Int.reduceEq, Nat.reduceLT, Nat.reduceLeDiff, Nat.reduceAdd, Nat.reduceSub, Nat.reducePow, bPowL, SZ, tyOf, evI, items_ref, items_tup, live_ref, live_tup, lstOf_new, true_and, and_true, ne_eq, not_true_eq_false, not_false_eq_true, Int.cast_ofNat_Int, decide_eq_true_eq, if_true, if_false, ite_true, ite_false, List.nil_append, isB, String.reduceBEq, String.reduceEq, decide_true, decide_false, Bool.false_eq_true, Bool.or_false, Bool.and_false, Bool.or_true, Bool.and_true, Bool.true_and, Bool.false_and, Bool.not_true, Bool.not_false, ite_true, ite_false, reduceIte, Bool.true_or, Bool.false_or, gt_iff_lt, ge_iff_le, iM1, iM1', iM2, cut_last, cut_last2, slT, fTupL, fTupT, fListL, fInt, fIntB, wipe0, wipe1, tNs, tsNs, inT, isBl, notBl, List.all_cons, List.all_nil, List.any_cons, List.any_nil, flP, eqP, isBlB, notRef, lit_beq, List.append_nil, List.not_mem_nil, isNonB, Int.neg_neg, Int.reduceNegSucc]
    refine ⟨by omega, ?_⟩
    rw [rd_pile M2.ins]
    rw [put_lst ep2 (show ixN (gs.map Fr.v ++ [g.v]).length (-1) = some (gs.map Fr.v).length by rw [List.length_append]; exact ixN_last), set_last]
    have M3 := M2.setPile (pl := gs ++ [⟨g.b, g.a, g.sl, g.st ++ [v]⟩])
    have e2 : (gs ++ [(⟨g.b, g.a, g.sl, g.st ++ [v]⟩ : Fr)]).map Fr.v = gs.map Fr.v ++ [PV.tup [PV.int g.b, PV.int g.a, PV.tup g.sl, PV.tup (g.st ++ [v])]] := by rw [List.map_append]; rfl
    rw [e2] at M3
    exact q _ ap (mv2.trans (Mv.of_stays (D := [ap]) (Stays.set (by simp)) (fun x hx => by rw [List.mem_singleton.mp hx]; exact .inl f3))) (M3.wide (Nat.le_refl _) fun a f => .inl f)
  | thing hf hv hi =>
    subst hf hv
    rw [if_neg (show ¬ (!PyData.eqvAll (dats (([] : List Fr).map Fr.v)) (dats [])) = true from nofun)]
    simp only [evB, evS, evE, evEs, evO, evC, evT, evG, evGs, bAdd, bAddT, bSub, bMulL, bMulR, bDivL, bModL, cLt, cLe, cGt, cGe, cIs, cNot, iT0, iT1, fMin, fMax, fAbs, fLenT, tyT, tyI, tyB, tyS, truB, truI, ex_int, ex_bl, ex_tup, ex_some, ex_cons, eq_self, ex_var, eq_int, ne_int, eq_lit, ne_lit, startL, List.map_cons, List.map_nil, List.cons_append, List.nil_append, List.length_cons, List.length_nil, List.replicate, List.getElem?_cons_zero, List.getElem?_cons_succ, List.set_cons_zero, List.set_cons_succ, lenTs, Int.reduceToNat, Int.reducePow, Int.reduceSub, Int.reduceAdd, Int.reduceMul, Int.reduceNeg, Int.reduceLT, Int.reduceLE, Int.reduceEq, Nat.reduceLT, Nat.reduceLeDiff, Nat.reduceAdd, Nat.reduceSub, Nat.reducePow, bPowL, SZ, tyOf, evI, items_ref, items_tup, live_ref, live_tup, lstOf_new, true_and, and_true, ne_eq, not_true_eq_false, not_false_eq_true, Int.cast_ofNat_Int, decide_eq_true_eq, if_true, if_false, ite_true, ite_false, List.nil_append, isB, String.reduceBEq, String.reduceEq, decide_true, decide_false, Bool.false_eq_true, Bool.or_false, Bool.and_false, Bool.or_true, Bool.and_true, Bool.true_and, Bool.false_and, Bool.not_true, Bool.not_false, ite_true, ite_false, reduceIte, Bool.true_or, Bool.false_or, gt_iff_lt, ge_iff_le, iM1, iM1', iM2, cut_last, cut_last2, slT, fTupL, fTupT, fListL, fInt, fIntB, wipe0, wipe1, tNs, tsNs, inT, isBl, notBl, List.all_cons, List.all_nil, List.any_cons, List.any_nil, flP, eqP, isBlB, notRef, lit_beq, List.append_nil, List.not_mem_nil, isNonB, Int.neg_neg, Int.reduceNegSucc]
    rw [ex_meth M2.ins c_Machine (show getM n_over cMachine.meths = some n_Machine_over from rfl), rd_made M2.ins, iRef]
    refine ⟨_, lst_got M2.made, _, hi, ?_⟩
    simp only [evB, evS, evE, evEs, evO, evC, evT, evG, evGs, bAdd, bAddT, bSub, bMulL, bMulR, bDivL, bModL, cLt, cLe, cGt, cGe, cIs, cNot, iT0, iT1, fMin, fMax, fAbs, fLenT, tyT, tyI, tyB, tyS, truB, truI, ex_int, ex_bl, ex_tup, ex_some, ex_cons, eq_self, ex_var, eq_int, ne_int, eq_lit, ne_lit, startL, List.map_cons, List.map_nil, List.cons_append, List.nil_append, List.length_cons, List.length_nil, List.replicate, List.getElem?_cons_zero, List.getElem?_cons_succ, List.set_cons_zero, List.set_cons_succ, lenTs, Int.reduceToNat, Int.reducePow, Int.reduceSub, Int.reduceAdd, Int.reduceMul, Int.reduceNeg, Int.reduceLT, Int.reduceLE, Int.reduceEq, Nat.reduceLT, Nat.reduceLeDiff, Nat.reduceAdd, Nat.reduceSub, Nat.reducePow, bPowL, SZ, tyOf, evI, items_ref, items_tup, live_ref, live_tup, lstOf_new, true_and, and_true, ne_eq, not_true_eq_false, not_false_eq_true, Int.cast_ofNat_Int, decide_eq_true_eq, if_true, if_false, ite_true, ite_false, List.nil_append, isB, String.reduceBEq, String.reduceEq, decide_true, decide_false, Bool.false_eq_true, Bool.or_false, Bool.and_false, Bool.or_true, Bool.and_true, Bool.true_and, Bool.false_and, Bool.not_true, Bool.not_false, ite_true, ite_false, reduceIte, Bool.true_or, Bool.false_or, gt_iff_lt, ge_iff_le, iM1, iM1', iM2, cut_last, cut_last2, slT, fTupL, fTupT, fListL, fInt, fIntB, wipe0, wipe1, tNs, tsNs, inT, isBl, notBl, List.all_cons, List.all_nil, List.any_cons, List.any_nil, flP, eqP, isBlB, notRef, lit_beq, List.append_nil, List.not_mem_nil, isNonB, Int.neg_neg, Int.reduceNegSucc]
    exact over _ q
  | value hf hv =>
    subst hf
    rw [if_neg (show ¬ (!PyData.eqvAll (dats (([] : List Fr).map Fr.v)) (dats [])) = true from nofun)]
    rcases hv with ⟨i, rfl⟩ | ⟨c, rfl⟩
    · simp only [evB, evS, evE, evEs, evO, evC, evT, evG, evGs, bAdd, bAddT, bSub, bMulL, bMulR, bDivL, bModL, cLt, cLe, cGt, cGe, cIs, cNot, iT0, iT1, fMin, fMax, fAbs, fLenT, tyT, tyI, tyB, tyS, truB, truI, ex_int, ex_bl, ex_tup, ex_some, ex_cons, eq_self, ex_var, eq_int, ne_int, eq_lit, ne_lit, startL, List.map_cons, List.map_nil, List.cons_append, List.nil_append, List.length_cons, List.length_nil, List.replicate, List.getElem?_cons_zero, List.getElem?_cons_succ, List.set_cons_zero, List.set_cons_succ, lenTs, Int.reduceToNat, Int.reducePow, Int.reduceSub, Int.reduceAdd, Int.reduceMul, Int.reduceNeg, Int.reduceLT, Int.reduceLE, Int.reduceEq, Nat.reduceLT, Nat.reduceLeDiff, Nat.reduceAdd, Nat.reduceSub, Nat.reducePow, bPowL, SZ, tyOf, evI, items_ref, items_tup, live_ref, live_tup, lstOf_new, true_and, and_true, ne_eq, not_true_eq_false, not_false_eq_true, Int.cast_ofNat_Int, decide_eq_true_eq, if_true, if_false, ite_true, ite_false, List.nil_append, isB, String.reduceBEq, String.reduceEq, decide_true, decide_false, Bool.false_eq_true, Bool.or_false, Bool.and_false, Bool.or_true, Bool.and_true, Bool.true_and, Bool.false_and, Bool.not_true, Bool.not_false, ite_true, ite_false, reduceIte, Bool.true_or, Bool.false_or, gt_iff_lt, ge_iff_le, iM1, iM1', iM2, cut_last, cut_last2, slT, fTupL, fTupT, fListL, fInt, fIntB, wipe0, wipe1, tNs, tsNs, inT, isBl, notBl, List.all_cons, List.all_nil, List.any_cons, List.any_nil, flP, eqP, isBlB, notRef, lit_beq, List.append_nil, List.not_mem_nil, isNonB, Int.neg_neg, Int.reduceNegSucc]
      rw [ex_meth M2.ins c_Machine (show getM n_over cMachine.meths = some n_Machine_over from rfl)]
      exact over _ q
    · simp only [evB, evS, evE, evEs, evO, evC, evT, evG, evGs, bAdd, bAddT, bSub, bMulL, bMulR, bDivL, bModL, cLt, cLe, cGt, cGe, cIs, cNot, iT0, iT1, fMin, fMax, fAbs, fLenT, tyT, tyI, tyB, tyS, truB, truI, ex_int, ex_bl, ex_tup, ex_some, ex_cons, eq_self, ex_var, eq_int, ne_int, eq_lit, ne_lit, startL, List.map_cons, List.map_nil, List.cons_append, List.nil_append, List.length_cons, List.length_nil, List.replicate, List.getElem?_cons_zero, List.getElem?_cons_succ, List.set_cons_zero, List.set_cons_succ, lenTs, Int.reduceToNat, Int.reducePow, Int.reduceSub, Int.reduceAdd, Int.reduceMul, Int.reduceNeg, Int.reduceLT, Int.reduceLE, Int.reduceEq, Nat.reduceLT, Nat.reduceLeDiff, Nat.reduceAdd, Nat.reduceSub, Nat.reducePow, bPowL, SZ, tyOf, evI, items_ref, items_tup, live_ref, live_tup, lstOf_new, true_and, and_true, ne_eq, not_true_eq_false, not_false_eq_true, Int.cast_ofNat_Int, decide_eq_true_eq, if_true, if_false, ite_true, ite_false, List.nil_append, isB, String.reduceBEq, String.reduceEq, decide_true, decide_false, Bool.false_eq_true, Bool.or_false, Bool.and_false, Bool.or_true, Bool.and_true, Bool.true_and, Bool.false_and, Bool.not_true, Bool.not_false, ite_true, ite_false, reduceIte, Bool.true_or, Bool.false_or, gt_iff_lt, ge_iff_le, iM1, iM1', iM2, cut_last, cut_last2, slT, fTupL, fTupT, fListL, fInt, fIntB, wipe0, wipe1, tNs, tsNs, inT, isBl, notBl, List.all_cons, List.all_nil, List.any_cons, List.any_nil, flP, eqP, isBlB, notRef, lit_beq, List.append_nil, List.not_mem_nil, isNonB, Int.neg_neg, Int.reduceNegSucc]
      rw [ex_meth M2.ins c_Machine (show getM n_over cMachine.meths = some n_Machine_over from rfl)]
      exact over _ q
theorem s_make {house b a : Int} {fs : List Fr} {f : Fr} {sl rest vals : List PV} (M : MC C Fp n h p ac ah sp ap am d th s) (hp : s.pile = fs ++ [f]) (hm : s.made.length < 100000) (hr : rest.length + vals.length < 1000)
    (q : ∀ h', Mv Fp h h' → MC C Fp n h' p ac ah sp ap am d th { s with made := s.made ++ [.tup [.int house, .tup vals]], pile := fs ++ [⟨b, a + 1, sl, rest ++ [.tup [.str "thing", .int s.made.length]]⟩] } → Q .non h') :
    callS sgT (k + 1) (.fn n_Machine_make) [.ref p, .tup [.str "make", .int house, .int (vals.length : Nat)], frV b a sl (rest ++ vals)] h Q X := by
  obtain ⟨f1, f2, f3, f4, f5, f6, f7, f8⟩ := M.own
  rw [call_in (d := d_Machine_make) rfl rfl]
  unfold frV
  simp only [evB, evS, evE, evEs, evO, evC, evT, evG, evGs, bAdd, bAddT, bSub, bMulL, bMulR, bDivL, bModL, cLt, cLe, cGt, cGe, cIs, cNot, iT0, iT1, fMin, fMax, fAbs, fLenT, tyT, tyI, tyB, tyS, truB, truI, ex_int, ex_bl, ex_tup, ex_some, ex_cons, eq_self, ex_var, eq_int, ne_int, eq_lit, ne_lit, startL, List.map_cons, List.map_nil, List.cons_append, List.nil_append, List.length_cons, List.length_nil, List.replicate, List.getElem?_cons_zero, List.getElem?_cons_succ, List.set_cons_zero, List.set_cons_succ, lenTs, Int.reduceToNat, Int.reducePow, Int.reduceSub, Int.reduceAdd, Int.reduceMul, Int.reduceNeg, Int.reduceLT, Int.reduceLE, Int.reduceEq, Nat.reduceLT, Nat.reduceLeDiff, Nat.reduceAdd, Nat.reduceSub, Nat.reducePow, bPowL, SZ, tyOf, evI, items_ref, items_tup, live_ref, live_tup, lstOf_new, true_and, and_true, ne_eq, not_true_eq_false, not_false_eq_true, Int.cast_ofNat_Int, decide_eq_true_eq, if_true, if_false, ite_true, ite_false, List.nil_append, isB, String.reduceBEq, String.reduceEq, decide_true, decide_false, Bool.false_eq_true, Bool.or_false, Bool.and_false, Bool.or_true, Bool.and_true, Bool.true_and, Bool.false_and, Bool.not_true, Bool.not_false, ite_true, ite_false, reduceIte, Bool.true_or, Bool.false_or, gt_iff_lt, ge_iff_le, iM1, iM1', iM2, cut_last, cut_last2, slT, fTupL, fTupT, fListL, fInt, fIntB, wipe0, wipe1, tNs, tsNs, inT, isBl, notBl, List.all_cons, List.all_nil, List.any_cons, List.any_nil, flP, eqP, isBlB, notRef, lit_beq, List.append_nil, List.not_mem_nil, isNonB, Int.neg_neg, Int.reduceNegSucc, d_Machine_make, b_Machine_make]
  rw [iAt (show atI [PV.str (Str.ofString "make"), PV.int house, PV.int ((vals.length : Nat) : Int)] 2 = some _ from rfl)]
  simp only [evB, evS, evE, evEs, evO, evC, evT, evG, evGs, bAdd, bAddT, bSub, bMulL, bMulR, bDivL, bModL, cLt, cLe, cGt, cGe, cIs, cNot, iT0, iT1, fMin, fMax, fAbs, fLenT, tyT, tyI, tyB, tyS, truB, truI, ex_int, ex_bl, ex_tup, ex_some, ex_cons, eq_self, ex_var, eq_int, ne_int, eq_lit, ne_lit, startL, List.map_cons, List.map_nil, List.cons_append, List.nil_append, List.length_cons, List.length_nil, List.replicate, List.getElem?_cons_zero, List.getElem?_cons_succ, List.set_cons_zero, List.set_cons_succ, lenTs, Int.reduceToNat, Int.reducePow, Int.reduceSub, Int.reduceAdd, Int.reduceMul, Int.reduceNeg, Int.reduceLT, Int.reduceLE, Int.reduceEq, Nat.reduceLT, Nat.reduceLeDiff, Nat.reduceAdd, Nat.reduceSub, Nat.reducePow, bPowL, SZ, tyOf, evI, items_ref, items_tup, live_ref, live_tup, lstOf_new, true_and, and_true, ne_eq, not_true_eq_false, not_false_eq_true, Int.cast_ofNat_Int, decide_eq_true_eq, if_true, if_false, ite_true, ite_false, List.nil_append, isB, String.reduceBEq, String.reduceEq, decide_true, decide_false, Bool.false_eq_true, Bool.or_false, Bool.and_false, Bool.or_true, Bool.and_true, Bool.true_and, Bool.false_and, Bool.not_true, Bool.not_false, ite_true, ite_false, reduceIte, Bool.true_or, Bool.false_or, gt_iff_lt, ge_iff_le, iM1, iM1', iM2, cut_last, cut_last2, slT, fTupL, fTupT, fListL, fInt, fIntB, wipe0, wipe1, tNs, tsNs, inT, isBl, notBl, List.all_cons, List.all_nil, List.any_cons, List.any_nil, flP, eqP, isBlB, notRef, lit_beq, List.append_nil, List.not_mem_nil, isNonB, Int.neg_neg, Int.reduceNegSucc]
  have e1 : ((rest ++ vals).length : Int) - ((vals.length : Nat) : Int) = (rest.length : Int) := by
    rw [List.length_append]; omega
  rw [e1, cut_tail rfl, cut_head rfl, rd_made M.ins]
  refine ⟨ty_get M.made, _, M.made, by show _ < 16777216; omega, ?_⟩
  have M1 := M.setMade (ms := s.made ++ [.tup [.int house, .tup vals]])
  have mv1 : Mv Fp h (h.set am (.lst (s.made ++ [.tup [.int house, .tup vals]]))) := Mv.of_stays (D := [am]) (Stays.set (by simp)) (fun x hx => by rw [List.mem_singleton.mp hx]; exact f4)
  generalize h.set am (.lst (s.made ++ [.tup [.int house, .tup vals]])) = h1 at M1 mv1 ⊢
  dsimp only
  rw [rd_made M1.ins, fLenL]
  refine ⟨_, lst_got M1.made, ?_⟩
  simp only [evB, evS, evE, evEs, evO, evC, evT, evG, evGs, bAdd, bAddT, bSub, bMulL, bMulR, bDivL, bModL, cLt, cLe, cGt, cGe, cIs, cNot, iT0, iT1, fMin, fMax, fAbs, fLenT, tyT, tyI, tyB, tyS, truB, truI, ex_int, ex_bl, ex_tup, ex_some, ex_cons, eq_self, ex_var, eq_int, ne_int, eq_lit, ne_lit, startL, List.map_cons, List.map_nil, List.cons_append, List.nil_append, List.length_cons, List.length_nil, List.replicate, List.getElem?_cons_zero, List.getElem?_cons_succ, List.set_cons_zero, List.set_cons_succ, lenTs, Int.reduceToNat, Int.reducePow, Int.reduceSub, Int.reduceAdd, Int.reduceMul, Int.reduceNeg, Int.reduceLT, Int.reduceLE, Int.reduceEq, Nat.reduceLT, Nat.reduceLeDiff, Nat.reduceAdd, Nat.reduceSub, Nat.reducePow, bPowL, SZ, tyOf, evI, items_ref, items_tup, live_ref, live_tup, lstOf_new, true_and, and_true, ne_eq, not_true_eq_false, not_false_eq_true, Int.cast_ofNat_Int, decide_eq_true_eq, if_true, if_false, ite_true, ite_false, List.nil_append, isB, String.reduceBEq, String.reduceEq, decide_true, decide_false, Bool.false_eq_true, Bool.or_false, Bool.and_false, Bool.or_true, Bool.and_true, Bool.true_and, Bool.false_and, Bool.not_true, Bool.not_false, ite_true, ite_false, reduceIte, Bool.true_or, Bool.false_or, gt_iff_lt, ge_iff_le, iM1, iM1', iM2, cut_last, cut_last2, slT, fTupL, fTupT, fListL, fInt, fIntB, wipe0, wipe1, tNs, tsNs, inT, isBl, notBl, List.all_cons, List.all_nil, List.any_cons, List.any_nil, flP, eqP, isBlB, notRef, lit_beq, List.append_nil, List.not_mem_nil, isNonB, Int.neg_neg, Int.reduceNegSucc]
  refine ⟨by show _ ≤ 16777215; omega, ?_⟩
  rw [rd_pile M1.ins]
  have ep : h1[ap]? = some (.lst (fs.map Fr.v ++ [f.v])) := by rw [M1.pile, hp, List.map_append]; rfl
  rw [put_lst ep (show ixN (fs.map Fr.v ++ [f.v]).length (-1) = some (fs.map Fr.v).length by rw [List.length_append]; exact ixN_last), set_last]
  have M2 := M1.setPile (pl := fs ++ [⟨b, a + 1, sl, rest ++ [.tup [.str "thing", .int s.made.length]]⟩])
  have e2 : (fs ++ [(⟨b, a + 1, sl, rest ++ [.tup [.str "thing", .int s.made.length]]⟩ : Fr)]).map Fr.v = fs.map Fr.v ++ [PV.tup [PV.int b, PV.int (a + 1), PV.tup sl, PV.tup (rest ++ [.tup [.str "thing", .int s.made.length]])]] := by rw [List.map_append]; rfl
  rw [e2] at M2
  have e3 : ((s.made ++ [PV.tup [.int house, .tup vals]]).length : Int) - 1 = (s.made.length : Int) := by rw [List.length_append]; simp
  rw [e3]
  exact q _ (mv1.trans (Mv.of_stays (D := [ap]) (Stays.set (by simp)) (fun x hx => by rw [List.mem_singleton.mp hx]; exact .inl f3))) M2
theorem s_put_row {b a i : Int} {c : PV} {j : Nat} {fs : List Fr} {f : Fr} {sl rest vs : List PV} {v : PV} (M : MC C Fp n h p ac ah sp ap am d th s) (hp : s.pile = fs ++ [f]) {m : Nat} (hi : ixN s.made.length i = some m) (hm : s.made[m]? = some (.tup [c, .tup vs])) (hj : j < vs.length) (hv : vs.length < 1000) (hr : rest.length < 1000)
    (q : ∀ h', Mv Fp h h' → MC C Fp n h' p ac ah sp ap am d th { s with made := s.made.set m (.tup [c, .tup (vs.set j v)]), pile := fs ++ [⟨b, a + 1, sl, rest ++ [v]⟩] } → Q .non h') :
    callS sgT (k + 1) (.fn n_Machine_set_one) [.ref p, .tup [.str "put", .int j], frV b a sl (rest ++ [.tup [.str "thing", .int i], v])] h Q X := by
  obtain ⟨f1, f2, f3, f4, f5, f6, f7, f8⟩ := M.own
  rw [call_in (d := d_Machine_set_one) rfl rfl]
  unfold frV
  have h1 : (vs.take j ++ [v]).length ≤ 16777215 := by simp; omega
  have e1 : vs.take j ++ [v] ++ vs.drop (j + 1) = vs.set j v := by
    rw [List.set_eq_take_append_cons_drop, if_pos hj, List.append_assoc]; rfl
  have h2 : (vs.take j ++ [v]).length + (vs.drop (j + 1)).length ≤ 16777216 := by simp; omega
  have h3 : (vs.take j).length ≤ 16777215 := by simp; omega
  have h4 : rest.length ≤ 16777215 := by omega
  simp only [evB, evS, evE, evEs, evO, evC, evT, evG, evGs, bAdd, bAddT, bSub, bMulL, bMulR, bDivL, bModL, cLt, cLe, cGt, cGe, cIs, cNot, iT0, iT1, fMin, fMax, fAbs, fLenT, tyT, tyI, tyB, tyS, truB, truI, ex_int, ex_bl, ex_tup, ex_some, ex_cons, eq_self, ex_var, eq_int, ne_int, eq_lit, ne_lit, startL, List.map_cons, List.map_nil, List.cons_append, List.nil_append, List.length_cons, List.length_nil, List.replicate, List.getElem?_cons_zero, List.getElem?_cons_succ, List.set_cons_zero, List.set_cons_succ, lenTs, Int.reduceToNat, Int.reducePow, Int.reduceSub, Int.reduceAdd, Int.reduceMul, Int.reduceNeg, Int.reduceLT, Int.reduceLE, Int.reduceEq, Nat.reduceLT, Nat.reduceLeDiff, Nat.reduceAdd, Nat.reduceSub, Nat.reducePow, bPowL, SZ, tyOf, evI, items_ref, items_tup, live_ref, live_tup, lstOf_new, true_and, and_true, ne_eq, not_true_eq_false, not_false_eq_true, Int.cast_ofNat_Int, decide_eq_true_eq, if_true, if_false, ite_true, ite_false, List.nil_append, isB, String.reduceBEq, String.reduceEq, decide_true, decide_false, Bool.false_eq_true, Bool.or_false, Bool.and_false, Bool.or_true, Bool.and_true, Bool.true_and, Bool.false_and, Bool.not_true, Bool.not_false, ite_true, ite_false, reduceIte, Bool.true_or, Bool.false_or, gt_iff_lt, ge_iff_le, iM1, iM1', iM2, cut_last, cut_last2, slT, fTupL, fTupT, fListL, fInt, fIntB, wipe0, wipe1, tNs, tsNs, inT, isBl, notBl, List.all_cons, List.all_nil, List.any_cons, List.any_nil, flP, eqP, isBlB, notRef, lit_beq, List.append_nil, List.not_mem_nil, isNonB, Int.neg_neg, Int.reduceNegSucc, d_Machine_set_one, b_Machine_set_one]
  rw [rd_made M.ins, iRef]
  have ei : atI s.made i = some (.tup [c, .tup vs]) := by unfold atI; rw [hi]; exact hm
  refine ⟨_, lst_got M.made, _, ei, ?_⟩
  simp only [evB, evS, evE, evEs, evO, evC, evT, evG, evGs, bAdd, bAddT, bSub, bMulL, bMulR, bDivL, bModL, cLt, cLe, cGt, cGe, cIs, cNot, iT0, iT1, fMin, fMax, fAbs, fLenT, tyT, tyI, tyB, tyS, truB, truI, ex_int, ex_bl, ex_tup, ex_some, ex_cons, eq_self, ex_var, eq_int, ne_int, eq_lit, ne_lit, startL, List.map_cons, List.map_nil, List.cons_append, List.nil_append, List.length_cons, List.length_nil, List.replicate, List.getElem?_cons_zero, List.getElem?_cons_succ, List.set_cons_zero, List.set_cons_succ, lenTs, Int.reduceToNat, Int.reducePow, Int.reduceSub, Int.reduceAdd, Int.reduceMul, Int.reduceNeg, Int.reduceLT, Int.reduceLE, Int.reduceEq, Nat.reduceLT, Nat.reduceLeDiff, Nat.reduceAdd, Nat.reduceSub, Nat.reducePow, bPowL, SZ, tyOf, evI, items_ref, items_tup, live_ref, live_tup, lstOf_new, true_and, and_true, ne_eq, not_true_eq_false, not_false_eq_true, Int.cast_ofNat_Int, decide_eq_true_eq, if_true, if_false, ite_true, ite_false, List.nil_append, isB, String.reduceBEq, String.reduceEq, decide_true, decide_false, Bool.false_eq_true, Bool.or_false, Bool.and_false, Bool.or_true, Bool.and_true, Bool.true_and, Bool.false_and, Bool.not_true, Bool.not_false, ite_true, ite_false, reduceIte, Bool.true_or, Bool.false_or, gt_iff_lt, ge_iff_le, iM1, iM1', iM2, cut_last, cut_last2, slT, fTupL, fTupT, fListL, fInt, fIntB, wipe0, wipe1, tNs, tsNs, inT, isBl, notBl, List.all_cons, List.all_nil, List.any_cons, List.any_nil, flP, eqP, isBlB, notRef, lit_beq, List.append_nil, List.not_mem_nil, isNonB, Int.neg_neg, Int.reduceNegSucc, cut_to (Nat.le_of_lt hj), cut_from hj, h3, h2, e1, h4]
  rw [rd_made M.ins, put_lst M.made hi]
  have M1 := M.setMade (ms := s.made.set m (.tup [c, .tup (vs.set j v)]))
  have mv1 : Mv Fp h (h.set am (.lst (s.made.set m (.tup [c, .tup (vs.set j v)])))) := Mv.of_stays (D := [am]) (Stays.set (by simp)) (fun x hx => by rw [List.mem_singleton.mp hx]; exact f4)
  generalize h.set am (.lst (s.made.set m (.tup [c, .tup (vs.set j v)]))) = h1 at M1 mv1 ⊢
  rw [rd_pile M1.ins]
  have ep : h1[ap]? = some (.lst (fs.map Fr.v ++ [f.v])) := by rw [M1.pile, hp, List.map_append]; rfl
  rw [put_lst ep (show ixN (fs.map Fr.v ++ [f.v]).length (-1) = some (fs.map Fr.v).length by rw [List.length_append]; exact ixN_last), set_last]
  have M2 := M1.setPile (pl := fs ++ [⟨b, a + 1, sl, rest ++ [v]⟩])
  have e2 : (fs ++ [(⟨b, a + 1, sl, rest ++ [v]⟩ : Fr)]).map Fr.v = fs.map Fr.v ++ [PV.tup [PV.int b, PV.int (a + 1), PV.tup sl, PV.tup (rest ++ [v])]] := by rw [List.map_append]; rfl
  rw [e2] at M2
  exact q _ (mv1.trans (Mv.of_stays (D := [ap]) (Stays.set (by simp)) (fun x hx => by rw [List.mem_singleton.mp hx]; exact .inl f3))) M2
end
end Py

set_option Elab.async false
set_option linter.all false
set_option maxRecDepth 100000
set_option maxHeartbeats 4000000
/-! The machine, over the reading: a step. -/
namespace Py
open PySem
def RowIs (C : Cf) (f : Fr) (row : PV) : Prop := ∃ many size rows, atI C.code f.b = some (.tup [many, size, .tup rows]) ∧ atI rows f.a = some row
def g1 (s : St) : St := { s with gone := s.gone + 1 }
/-- one row done -/
inductive Stp (C : Cf) (s : St) (fs : List Fr) (f : Fr) : St → Prop
  | own {w : String} {args : List PV} {f' : Fr} : RowIs C f (.tup (.str (Str.ofString w) :: args)) → w ∉ ["back", "call", "straight", "make", "put"] → Own (.tup (.str (Str.ofString w) :: args)) f.v s.made f'.v .non → Stp C s fs f { g1 s with pile := fs ++ [f'] }
  | ref {w u : String} {args : List PV} {f' : Fr} : RowIs C f (.tup (.str (Str.ofString w) :: args)) → w ∉ ["back", "call", "straight", "make", "put"] → Own (.tup (.str (Str.ofString w) :: args)) f.v s.made f'.v (.tup [.str "refused", .str (Str.ofString u)]) →
      Stp C s fs f { g1 s with pile := [], ended := .tup [.str "refused", .str (Str.ofString u)] }
  | make {house : Int} {rest vals : List PV} : RowIs C f (.tup [.str "make", .int house, .int (vals.length : Nat)]) → f.st = rest ++ vals → s.made.length < 100000 → rest.length + vals.length < 1000 →
      Stp C s fs f { g1 s with made := s.made ++ [.tup [.int house, .tup vals]], pile := fs ++ [⟨f.b, f.a + 1, f.sl, rest ++ [.tup [.str "thing", .int s.made.length]]⟩] }
  | put {i : Int} {j m : Nat} {c v : PV} {rest vs : List PV} : RowIs C f (.tup [.str "put", .int j]) → f.st = rest ++ [.tup [.str "thing", .int i], v] → ixN s.made.length i = some m → s.made[m]? = some (.tup [c, .tup vs]) → j < vs.length → vs.length < 1000 → rest.length < 1000 →
      Stp C s fs f { g1 s with made := s.made.set m (.tup [c, .tup (vs.set j v)]), pile := fs ++ [⟨f.b, f.a + 1, f.sl, rest ++ [v]⟩] }
  | back {v : PV} {st : List PV} {s' : St} : RowIs C f (.tup [.str "back"]) → f.st = st ++ [v] → BackR (g1 s) fs v s' → Stp C s fs f s'
  | call {site word i house bb : Int} {r rest vals : List PV} {s1 s' : St} : RowIs C f (.tup [.str "call", .int site, .int word, .int (vals.length + 1 : Nat)]) → f.st = rest ++ .tup [.str "thing", .int i] :: vals → rest.length + vals.length < 1000 → atI s.made i = some (.tup (.int house :: r)) → (∀ x, okR (s.pairs x)) →
      LookR C (g1 s) site word house s1 bb → EnterR C s1 fs f.b f.a f.sl rest (.tup [.str "thing", .int i] :: vals) bb s' → Stp C s fs f s'
  | str {bb : Int} {rest vals : List PV} {s' : St} : RowIs C f (.tup [.str "straight", .int bb, .int (vals.length : Nat)]) → f.st = rest ++ vals → rest.length + vals.length < 1000 → EnterR C (g1 s) fs f.b f.a f.sl rest vals bb s' → Stp C s fs f s'
section
variable {C : Cf} {Fp : Nat → Prop} {n k : Nat} {h : PH} {p ac ah sp ap am d : Nat} {th : List Nat} {s : St} {Q : KQ} {X : KX}
theorem inStr {w : String} {h : PH} {Q : Bool → PH → Prop} : cmpV .inn (.str (Str.ofString w)) (.tup [.str "call", .str "straight"]) h Q = Q (decide (w = "call") || decide (w = "straight")) h := by
  rw [inT]
  have e : ([PV.str "call", PV.str "straight"].any fun z => eqP z (.str (Str.ofString w))) = (decide (w = "call") || decide (w = "straight")) := by
    show (((Str.ofString "call") == (Str.ofString w)) || (((Str.ofString "straight") == (Str.ofString w)) || false)) = _
    rw [lit_beq, lit_beq, Bool.or_false, bqd, bqd, Bool.eq_iff_iff]
    simp only [Bool.or_eq_true, decide_eq_true_eq, eq_comm]
  rw [e]
  exact propext ⟨fun q => q.2, fun q => ⟨rfl, q⟩⟩
theorem iHead {x : PV} {r : List PV} {h : PH} {Q : KQ} : idxV (.tup (x :: r)) (.int 0) h Q = Q x h := iT0
theorem s_step {fs : List Fr} {f : Fr} {s' : St} (M : MC C Fp n h p ac ah sp ap am d th s) (lt : ∀ a, Fp a → a < h.length) (hp : s.pile = fs ++ [f]) (o : ∀ g ∈ s.pile, okF g) (hl : s.pile.length < 1000) (hn : n < 900000) (T : Stp C s fs f s')
    (q : ∀ h' ap', Mv Fp h h' → MC C (grow Fp h h') (n + 2) h' p ac ah sp ap' am d th s' → Q (.bl true) h') : callS sgT (k + 5) (.fn n_Machine_step) [.ref p] h Q X := by
  obtain ⟨f1, f2, f3, f4, f5, f6, f7, f8⟩ := M.own
  rw [call_in (d := d_Machine_step) rfl rfl]
  simp only [evB, evS, evE, evEs, evO, evC, evT, evG, evGs, bAdd, bAddT, bSub, bMulL, bMulR, bDivL, bModL, cLt, cLe, cGt, cGe, cIs, cNot, iT0, iT1, fMin, fMax, fAbs, fLenT, tyT, tyI, tyB, tyS, truB, truI, ex_int, ex_bl, ex_tup, ex_some, ex_cons, eq_self, ex_var, eq_int, ne_int, eq_lit, ne_lit, startL, List.map_cons, List.map_nil, List.cons_append, List.nil_append, List.length_cons, List.length_nil, List.replicate, List.getElem?_cons_zero, List.getElem?_cons_succ, List.set_cons_zero, List.set_cons_succ, lenTs, Int.reduceToNat, Int.reducePow, Int.reduceSub, Int.reduceAdd, Int.reduceMul, Int.reduceNeg, Int.reduceLT, Int.reduceLE, Int.reduceEq, Nat.reduceLT, Nat.reduceLeDiff, Nat.reduceAdd, Nat.reduceSub, Nat.reducePow, bPowL, SZ, tyOf, evI, items_ref, items_tup, live_ref, live_tup, lstOf_new, true_and, and_true, ne_eq, not_true_eq_false, not_false_eq_true, Int.cast_ofNat_Int, decide_eq_true_eq, if_true, if_false, ite_true, ite_false, List.nil_append, isB, String.reduceBEq, String.reduceEq, decide_true, decide_false, Bool.false_eq_true, Bool.or_false, Bool.and_false, Bool.or_true, Bool.and_true, Bool.true_and, Bool.false_and, Bool.not_true, Bool.not_false, ite_true, ite_false, reduceIte, Bool.true_or, Bool.false_or, gt_iff_lt, ge_iff_le, iM1, iM1', iM2, cut_last, cut_last2, slT, fTupL, fTupT, fListL, fInt, fIntB, wipe0, wipe1, tNs, tsNs, inT, isBl, notBl, List.all_cons, List.all_nil, List.any_cons, List.any_nil, flP, eqP, isBlB, notRef, lit_beq, List.append_nil, List.not_mem_nil, isNonB, Int.neg_neg, Int.reduceNegSucc, d_Machine_step, b_Machine_step]
  rw [rd_pile M.ins]
  have oo := okFs o
  refine eq_lists (lst_got (get_app M.pile)) lstOf_new oo.1 rfl oo.2 rfl ?_
  have nz : PyData.eqvAll (dats (s.pile.map Fr.v)) (dats []) = false := by
    rw [hp]
    cases fs <;> rfl
  rw [nz, if_neg Bool.false_ne_true]
  have M0 := M.app (t := [PO.lst []])
  have mv0 : Mv Fp h (h ++ [PO.lst []]) := Mv.of_stays (D := []) Stays.app (by simp)
  have l0 : (h ++ [PO.lst []]).length = h.length + 1 := by simp
  generalize h ++ [PO.lst []] = h0 at M0 mv0 l0 ⊢
  rw [rd_pile M0.ins, iRef]
  have ep : h0[ap]? = some (.lst (fs.map Fr.v ++ [f.v])) := by rw [M0.pile, hp, List.map_append]; rfl
  refine ⟨_, lst_got ep, _, at_last, ?_⟩
  rw [rd_code M0.ins]
  unfold Fr.v frV
  simp only [evB, evS, evE, evEs, evO, evC, evT, evG, evGs, bAdd, bAddT, bSub, bMulL, bMulR, bDivL, bModL, cLt, cLe, cGt, cGe, cIs, cNot, iT0, iT1, fMin, fMax, fAbs, fLenT, tyT, tyI, tyB, tyS, truB, truI, ex_int, ex_bl, ex_tup, ex_some, ex_cons, eq_self, ex_var, eq_int, ne_int, eq_lit, ne_lit, startL, List.map_cons, List.map_nil, List.cons_append, List.nil_append, List.length_cons, List.length_nil, List.replicate, List.getElem?_cons_zero, List.getElem?_cons_succ, List.set_cons_zero, List.set_cons_succ, lenTs, Int.reduceToNat, Int.reducePow, Int.reduceSub, Int.reduceAdd, Int.reduceMul, Int.reduceNeg, Int.reduceLT, Int.reduceLE, Int.reduceEq, Nat.reduceLT, Nat.reduceLeDiff, Nat.reduceAdd, Nat.reduceSub, Nat.reducePow, bPowL, SZ, tyOf, evI, items_ref, items_tup, live_ref, live_tup, lstOf_new, true_and, and_true, ne_eq, not_true_eq_false, not_false_eq_true, Int.cast_ofNat_Int, decide_eq_true_eq, if_true, if_false, ite_true, ite_false, List.nil_append, isB, String.reduceBEq, String.reduceEq, decide_true, decide_false, Bool.false_eq_true, Bool.or_false, Bool.and_false, Bool.or_true, Bool.and_true, Bool.true_and, Bool.false_and, Bool.not_true, Bool.not_false, ite_true, ite_false, reduceIte, Bool.true_or, Bool.false_or, gt_iff_lt, ge_iff_le, iM1, iM1', iM2, cut_last, cut_last2, slT, fTupL, fTupT, fListL, fInt, fIntB, wipe0, wipe1, tNs, tsNs, inT, isBl, notBl, List.all_cons, List.all_nil, List.any_cons, List.any_nil, flP, eqP, isBlB, notRef, lit_beq, List.append_nil, List.not_mem_nil, isNonB, Int.neg_neg, Int.reduceNegSucc]
  have read : ∀ (row : PV) (K : KQ), RowIs C f row → K row h0 → idxV (PV.ref ac) (PV.int f.b) h0 fun x h1 => idxV x (PV.int 2) h1 fun x h1 => idxV x (PV.int f.a) h1 K := by
    intro row K ⟨many, size, rows, e1, e2⟩ hK
    rw [iRef]
    refine ⟨_, lst_got M0.code, _, e1, ?_⟩
    rw [iAt (show atI [many, size, PV.tup rows] 2 = some (PV.tup rows) from rfl), iAt e2]
    exact hK
  have M1 := M0.setIns (s' := g1 s) rfl rfl rfl
  have mv1 : Mv Fp h (h0.set p (.ins n_Machine (fM C ac ah sp ap am (g1 s)))) := mv0.trans (Mv.of_stays (D := [p]) (Stays.set (by simp)) (fun x hx => by rw [List.mem_singleton.mp hx]; exact .inl f1))
  have l1 : (h0.set p (.ins n_Machine (fM C ac ah sp ap am (g1 s)))).length = h.length + 1 := by simp [l0]
  have hgone : getN n_gone (fM C ac ah sp ap am s) = some (.int s.gone) := rfl
  generalize eh1 : h0.set p (.ins n_Machine (fM C ac ah sp ap am (g1 s))) = h1 at M1 mv1 l1
  have eh1' : h0.set p (PO.ins n_Machine (fM C ac ah sp ap am { s with gone := s.gone + 1 })) = h1 := eh1
  have lt1 : ∀ a, Fp a → a < h1.length := fun a g => by have := lt a g; omega
  have fin : ∀ h' ap' n', n' ≤ n + 2 → Mv Fp h1 h' → MC C (grow Fp h1 h') n' h' p ac ah sp ap' am d th s' → Q (.bl true) h' := fun h' ap' n' hn' mv M2 => by
    refine q h' ap' (mv1.trans ⟨mv.le, fun a o na e => mv.at_ a o (fun g => na (.inl g)) e⟩) (M2.wide hn' fun a g => ?_)
    rcases g with g | g
    · exact .inl g
    · exact .inr ⟨by omega, g.2⟩
  have fin2 : ∀ h' n', n' ≤ n + 2 → Mv Fp h1 h' → MC C Fp n' h' p ac ah sp ap am d th s' → Q (.bl true) h' := fun h' n' hn' mv M2 => fin h' ap n' hn' mv (M2.wide (Nat.le_refl _) fun a g => .inl g)
  have hp1 : (g1 s).pile = fs ++ [f] := hp
  have o1 : ∀ g ∈ fs, okF g := fun g hg => o g (by rw [hp]; exact List.mem_append_left _ hg)
  cases T with
  | back hr hst hB =>
    refine read _ _ hr ?_
    rw [ex_augF M0.ins c_Machine rfl hgone, ag_add, ex_augW M0.ins fM_len, pt_gone, eh1']
    simp only [iHead, eq_lit, decide_true, if_true]
    rw [ex_meth M1.ins c_Machine (show getM n_leave cMachine.meths = some n_Machine_leave from rfl)]
    exact s_leave M1 lt1 hp1 hst o1 hB fun h' ap' mv M2 => fin h' ap' n (by omega) mv M2
  | make hr hst hm hz =>
    refine read _ _ hr ?_
    rw [ex_augF M0.ins c_Machine rfl hgone, ag_add, ex_augW M0.ins fM_len, pt_gone, eh1']
    simp only [iHead, eq_lit, inStr, decide_true, if_true, String.reduceEq, decide_false, Bool.false_eq_true, if_false, Bool.or_false]
    rw [ex_meth M1.ins c_Machine (show getM n_make cMachine.meths = some n_Machine_make from rfl), hst]
    exact s_make (s := g1 s) M1 hp1 hm hz fun h' mv M2 => fin2 h' n (by omega) mv M2
  | put hr hst hi hm hj hv hz =>
    refine read _ _ hr ?_
    rw [ex_augF M0.ins c_Machine rfl hgone, ag_add, ex_augW M0.ins fM_len, pt_gone, eh1']
    simp only [iHead, eq_lit, inStr, decide_true, if_true, String.reduceEq, decide_false, Bool.false_eq_true, if_false, Bool.or_false]
    rw [ex_meth M1.ins c_Machine (show getM n_set_one cMachine.meths = some n_Machine_set_one from rfl), hst]
    exact s_put_row (s := g1 s) M1 hp1 hi hm hj hv hz fun h' mv M2 => fin2 h' n (by omega) mv M2
  | call hr hst hz hi ok L E =>
    refine read _ _ hr ?_
    rw [ex_augF M0.ins c_Machine rfl hgone, ag_add, ex_augW M0.ins fM_len, pt_gone, eh1']
    simp only [iHead, eq_lit, inStr, decide_true, if_true, String.reduceEq, decide_false, Bool.false_eq_true, if_false, Bool.or_false, Bool.true_or]
    rw [ex_meth M1.ins c_Machine (show getM n_enter cMachine.meths = some n_Machine_enter from rfl), hst]
    exact s_enter_call (s := g1 s) M1 lt1 hp1 hz hi L hn ok E hl fun h' ap' mv M2 => fin h' ap' (n + 2) (by omega) mv M2
  | str hr hst hz E =>
    refine read _ _ hr ?_
    rw [ex_augF M0.ins c_Machine rfl hgone, ag_add, ex_augW M0.ins fM_len, pt_gone, eh1']
    simp only [iHead, eq_lit, inStr, decide_true, if_true, String.reduceEq, decide_false, Bool.false_eq_true, if_false, Bool.or_false, Bool.false_or]
    rw [ex_meth M1.ins c_Machine (show getM n_enter cMachine.meths = some n_Machine_enter from rfl), hst]
    exact s_enter_str (s := g1 s) M1 lt1 hp1 hz E hl fun h' ap' mv M2 => fin h' ap' n (by omega) mv M2
  | @own w args f' hr hw ho =>
    have w1 : w ≠ "back" := fun z => hw (by rw [z]; simp)
    have w2 : w ≠ "call" := fun z => hw (by rw [z]; simp)
    have w3 : w ≠ "straight" := fun z => hw (by rw [z]; simp)
    have w4 : w ≠ "make" := fun z => hw (by rw [z]; simp)
    have w5 : w ≠ "put" := fun z => hw (by rw [z]; simp)
    refine read _ _ hr ?_
    rw [ex_augF M0.ins c_Machine rfl hgone, ag_add, ex_augW M0.ins fM_len, pt_gone, eh1']
    simp only [iHead, eq_lit, inStr, decide_eq_false w1, decide_eq_false w2, decide_eq_false w3, decide_eq_false w4, decide_eq_false w5, Bool.false_eq_true, if_false, Bool.or_false]
    rw [rd_made M1.ins]
    refine ho k am h1 _ _ (lst_got M1.made) fun t => ?_
    simp only [evB, evS, evE, evEs, evO, evC, evT, evG, evGs, bAdd, bAddT, bSub, bMulL, bMulR, bDivL, bModL, cLt, cLe, cGt, cGe, cIs, cNot, iT0, iT1, fMin, fMax, fAbs, fLenT, tyT, tyI, tyB, tyS, truB, truI, ex_int, ex_bl, ex_tup, ex_some, ex_cons, eq_self, ex_var, eq_int, ne_int, eq_lit, ne_lit, startL, List.map_cons, List.map_nil, List.cons_append, List.nil_append, List.length_cons, List.length_nil, List.replicate, List.getElem?_cons_zero, List.getElem?_cons_succ, List.set_cons_zero, List.set_cons_succ, lenTs, Int.reduceToNat, Int.reducePow, Int.reduceSub, Int.reduceAdd, Int.reduceMul, Int.reduceNeg, Int.reduceLT, Int.reduceLE, Int.reduceEq, Nat.reduceLT, Nat.reduceLeDiff, Nat.reduceAdd, Nat.reduceSub, Nat.reducePow, bPowL, SZ, tyOf, evI, items_ref, items_tup, live_ref, live_tup, lstOf_new, true_and, and_true, ne_eq, not_true_eq_false, not_false_eq_true, Int.cast_ofNat_Int, decide_eq_true_eq, if_true, if_false, ite_true, ite_false, List.nil_append, isB, String.reduceBEq, String.reduceEq, decide_true, decide_false, Bool.false_eq_true, Bool.or_false, Bool.and_false, Bool.or_true, Bool.and_true, Bool.true_and, Bool.false_and, Bool.not_true, Bool.not_false, ite_true, ite_false, reduceIte, Bool.true_or, Bool.false_or, gt_iff_lt, ge_iff_le, iM1, iM1', iM2, cut_last, cut_last2, slT, fTupL, fTupT, fListL, fInt, fIntB, wipe0, wipe1, tNs, tsNs, inT, isBl, notBl, List.all_cons, List.all_nil, List.any_cons, List.any_nil, flP, eqP, isBlB, notRef, lit_beq, List.append_nil, List.not_mem_nil, isNonB, Int.neg_neg, Int.reduceNegSucc]
    have M2 := M1.app (t := t)
    have mv2 : Mv Fp h1 (h1 ++ t) := Mv.of_stays (D := []) Stays.app (by simp)
    generalize h1 ++ t = h2 at M2 mv2 ⊢
    rw [rd_pile M2.ins]
    have ep2 : h2[ap]? = some (.lst (fs.map Fr.v ++ [f.v])) := by rw [M2.pile, hp1, List.map_append]; rfl
    rw [put_lst ep2 (show ixN (fs.map Fr.v ++ [f.v]).length (-1) = some (fs.map Fr.v).length by rw [List.length_append]; exact ixN_last), set_last]
    have M3 := M2.setPile (pl := fs ++ [f'])
    have e2 : (fs ++ [f']).map Fr.v = fs.map Fr.v ++ [f'.v] := by rw [List.map_append]; rfl
    rw [e2] at M3
    exact fin2 _ n (by omega) (Mv.trans mv2 (Mv.of_stays (D := [ap]) (Stays.set (by simp)) (fun x hx => by rw [List.mem_singleton.mp hx]; exact .inl f3))) M3
  | @ref w u args f' hr hw ho =>
    have w1 : w ≠ "back" := fun z => hw (by rw [z]; simp)
    have w2 : w ≠ "call" := fun z => hw (by rw [z]; simp)
    have w3 : w ≠ "straight" := fun z => hw (by rw [z]; simp)
    have w4 : w ≠ "make" := fun z => hw (by rw [z]; simp)
    have w5 : w ≠ "put" := fun z => hw (by rw [z]; simp)
    refine read _ _ hr ?_
    rw [ex_augF M0.ins c_Machine rfl hgone, ag_add, ex_augW M0.ins fM_len, pt_gone, eh1']
    simp only [iHead, eq_lit, inStr, decide_eq_false w1, decide_eq_false w2, decide_eq_false w3, decide_eq_false w4, decide_eq_false w5, Bool.false_eq_true, if_false, Bool.or_false]
    rw [rd_made M1.ins]
    refine ho k am h1 _ _ (lst_got M1.made) fun t => ?_
    simp only [evB, evS, evE, evEs, evO, evC, evT, evG, evGs, bAdd, bAddT, bSub, bMulL, bMulR, bDivL, bModL, cLt, cLe, cGt, cGe, cIs, cNot, iT0, iT1, fMin, fMax, fAbs, fLenT, tyT, tyI, tyB, tyS, truB, truI, ex_int, ex_bl, ex_tup, ex_some, ex_cons, eq_self, ex_var, eq_int, ne_int, eq_lit, ne_lit, startL, List.map_cons, List.map_nil, List.cons_append, List.nil_append, List.length_cons, List.length_nil, List.replicate, List.getElem?_cons_zero, List.getElem?_cons_succ, List.set_cons_zero, List.set_cons_succ, lenTs, Int.reduceToNat, Int.reducePow, Int.reduceSub, Int.reduceAdd, Int.reduceMul, Int.reduceNeg, Int.reduceLT, Int.reduceLE, Int.reduceEq, Nat.reduceLT, Nat.reduceLeDiff, Nat.reduceAdd, Nat.reduceSub, Nat.reducePow, bPowL, SZ, tyOf, evI, items_ref, items_tup, live_ref, live_tup, lstOf_new, true_and, and_true, ne_eq, not_true_eq_false, not_false_eq_true, Int.cast_ofNat_Int, decide_eq_true_eq, if_true, if_false, ite_true, ite_false, List.nil_append, isB, String.reduceBEq, String.reduceEq, decide_true, decide_false, Bool.false_eq_true, Bool.or_false, Bool.and_false, Bool.or_true, Bool.and_true, Bool.true_and, Bool.false_and, Bool.not_true, Bool.not_false, ite_true, ite_false, reduceIte, Bool.true_or, Bool.false_or, gt_iff_lt, ge_iff_le, iM1, iM1', iM2, cut_last, cut_last2, slT, fTupL, fTupT, fListL, fInt, fIntB, wipe0, wipe1, tNs, tsNs, inT, isBl, notBl, List.all_cons, List.all_nil, List.any_cons, List.any_nil, flP, eqP, isBlB, notRef, lit_beq, List.append_nil, List.not_mem_nil, isNonB, Int.neg_neg, Int.reduceNegSucc]
    have M2 := M1.app (t := t)
    have mv2 : Mv Fp h1 (h1 ++ t) := Mv.of_stays (D := []) Stays.app (by simp)
    have l2 : h1.length ≤ (h1 ++ t).length := by simp
    generalize h1 ++ t = h2 at M2 mv2 l2 ⊢
    rw [rd_pile M2.ins]
    have ep2 : h2[ap]? = some (.lst (fs.map Fr.v ++ [f.v])) := by rw [M2.pile, hp1, List.map_append]; rfl
    rw [put_lst ep2 (show ixN (fs.map Fr.v ++ [f.v]).length (-1) = some (fs.map Fr.v).length by rw [List.length_append]; exact ixN_last), set_last]
    have M3 := M2.setPile (pl := fs ++ [f'])
    have e2 : (fs ++ [f']).map Fr.v = fs.map Fr.v ++ [f'.v] := by rw [List.map_append]; rfl
    rw [e2] at M3
    have mv3 : Mv Fp h1 (h2.set ap (.lst (fs.map Fr.v ++ [f'.v]))) := Mv.trans mv2 (Mv.of_stays (D := [ap]) (Stays.set (by simp)) (fun x hx => by rw [List.mem_singleton.mp hx]; exact .inl f3))
    have l3 : h1.length ≤ (h2.set ap (.lst (fs.map Fr.v ++ [f'.v]))).length := by simpa using l2
    generalize h2.set ap (.lst (fs.map Fr.v ++ [f'.v])) = h3 at M3 mv3 l3 ⊢
    rw [ex_meth M3.ins c_Machine (show getM n_over cMachine.meths = some n_Machine_over from rfl)]
    have lt3 : ∀ a, Fp a → a < h3.length := fun a g => by have := lt1 a g; omega
    refine s_over M3 (fin _ h3.length n (by omega) ?_ ?_)
    · refine mv3.trans ⟨by simp, fun a o na e => ?_⟩
      have hne : a ≠ p := fun z => na (.inl (by rw [z]; exact f1))
      rw [List.getElem?_set_ne (Ne.symm hne)]
      exact get_app e
    · have M4 := M3.newPile (s' := { g1 s with pile := [], ended := .tup [.str "refused", .str (Str.ofString u)] }) lt3 rfl rfl rfl
      refine M4.wide (Nat.le_refl _) fun a g => ?_
      rcases g with g | g
      · exact .inl g
      · exact .inr ⟨by omega, by simpa using g.2⟩
end
end Py

set_option Elab.async false
set_option linter.all false
set_option maxRecDepth 100000
set_option maxHeartbeats 4000000
/-! The machine, over the reading: made, asked. -/
namespace Py
open PySem
/-- all stays -/
def Kept (h h' : PH) : Prop := ∀ (a : Nat) (o : PO), h[a]? = some o → h'[a]? = some o
/-- the copies of tables -/
theorem comp_copies {live : PH → Prop} {body : PV → PH → (Option PV → PH → Prop) → Prop} {fin : PH → Prop} {h0 : PH} {dd : Nat} (hd : dd = h0.length) (hl : ∀ h', Kept h0 h' → live h') :
    ∀ (tb : List Nat) (tabs : List (List PV)) (hh : PH) (acc : List Nat) (tacc : List (List PV)), tb.length = tabs.length → (∀ (i : Nat) (t : Nat), tb[i]? = some t → ∃ xs, tabs[i]? = some xs ∧ lstOf h0 (.ref t) = some xs) →
      (∀ (t : Nat) (xs : List PV) (h' : PH) (K : Option PV → PH → Prop), lstOf h' (.ref t) = some xs → K (some (.ref h'.length)) (h' ++ [PO.lst xs]) → body (.ref t) h' K) →
      Kept h0 hh → hh[dd]? = some (.lst (acc.map .ref)) → acc.length = tacc.length → (∀ (i : Nat) (t : Nat), acc[i]? = some t → h0.length < t ∧ ∃ xs, tacc[i]? = some xs ∧ hh[t]? = some (PO.lst xs)) → acc.length + tb.length < 1000 →
      (∀ (h' : PH) (th : List Nat), Kept h0 h' → h'[dd]? = some (.lst (th.map .ref)) → th.length = (tacc ++ tabs).length → (∀ (i : Nat) (t : Nat), th[i]? = some t → h0.length < t ∧ ∃ xs, (tacc ++ tabs)[i]? = some xs ∧ h'[t]? = some (PO.lst xs)) → fin h') →
      compL live dd body fin (tb.map .ref) hh
  | [], tabs, hh, acc, tacc, el, ht, hb, hk, hdd, al, ha, hz, hf => by
    have : tabs = [] := List.eq_nil_of_length_eq_zero el.symm
    subst this
    exact ⟨hl _ hk, hf hh acc hk hdd (by simpa using al) (by simpa using ha)⟩
  | t :: tb, [], hh, acc, tacc, el, ht, hb, hk, hdd, al, ha, hz, hf => by simp at el
  | t :: tb, xs :: tabs, hh, acc, tacc, el, ht, hb, hk, hdd, al, ha, hz, hf => by
    refine ⟨hl _ hk, ?_⟩
    obtain ⟨ys, e1, e2⟩ := ht 0 t rfl
    cases (show xs = ys from Option.some.inj e1)
    have e3 : lstOf hh (.ref t) = some xs := by
      unfold lstOf at e2 ⊢
      dsimp only at e2 ⊢
      cases q : h0[t]? with
      | none => rw [q] at e2; cases e2
      | some o => rw [hk t o q]; rw [q] at e2; exact e2
    have ddl : dd < hh.length := (List.getElem?_eq_some_iff.mp hdd).1
    refine hb t xs hh _ e3 ⟨acc.map .ref, get_app hdd, by show _ < 16777216; rw [List.length_map]; omega, ?_⟩
    have e4 : acc.map PV.ref ++ [PV.ref hh.length] = (acc ++ [hh.length]).map PV.ref := by rw [List.map_append]; rfl
    rw [e4]
    refine comp_copies hd hl tb tabs _ (acc ++ [hh.length]) (tacc ++ [xs]) (by simpa using el) (fun i t' e => ht (i + 1) t' (by simpa using e)) hb (fun a o e => ?_) ?_ (by simp [al]) (fun i t' e => ?_) (by simp at hz ⊢; omega) (fun h' th a b c d => hf h' th a b (by simpa using c) (by simpa using d))
    · have := (List.getElem?_eq_some_iff.mp e).1
      rw [List.getElem?_set_ne (by omega)]
      exact get_app (hk a o e)
    · rw [List.getElem?_set_self (by simp; omega)]
    · by_cases hi : i < acc.length
      · rw [List.getElem?_append_left hi] at e
        obtain ⟨a, ys, b, c⟩ := ha i t' e
        refine ⟨a, ys, by rw [List.getElem?_append_left (by omega)]; exact b, ?_⟩
        rw [List.getElem?_set_ne (by omega)]
        exact get_app c
      · rw [List.getElem?_append_right (by omega)] at e
        have hi2 : i - acc.length = 0 := by
          cases hq : i - acc.length with
          | zero => rfl
          | succ m => rw [hq] at e; simp at e
        rw [hi2] at e
        have e : hh.length = t' := by simpa using e
        subst e
        refine ⟨by omega, xs, by rw [List.getElem?_append_right (by omega), show i - tacc.length = 0 by omega]; rfl, ?_⟩
        rw [List.getElem?_set_ne (by omega)]
        exact get_new
section
variable {k : Nat} {h : PH} {Q : KQ} {X : KX}
theorem s_enteredL {many rows : PV} {size num : Int} {vals : List PV} {a : Nat} (ha : lstOf h (.ref a) = some vals) (h0 : 0 ≤ size - vals.length) (h1 : size - vals.length ≤ 900) (h2 : vals.length ≤ 900) (q : Q (frV num 0 (vals ++ List.replicate (size - vals.length).toNat .non) []) h) : callS sgT (k + 1) (.fn n_entered) [.tup [many, .int size, rows], .int num, .ref a] h Q X := by
  rw [call_in (d := d_entered) rfl rfl]
  simp only [evB, evS, evE, evEs, evO, evC, evT, evG, evGs, bAdd, bAddT, bSub, bMulL, bMulR, bDivL, bModL, cLt, cLe, cGt, cGe, cIs, cNot, iT0, iT1, fMin, fMax, fAbs, fLenT, tyT, tyI, tyB, tyS, truB, truI, ex_int, ex_bl, ex_tup, ex_some, ex_cons, eq_self, ex_var, eq_int, ne_int, eq_lit, ne_lit, startL, List.map_cons, List.map_nil, List.cons_append, List.nil_append, List.length_cons, List.length_nil, List.replicate, List.getElem?_cons_zero, List.getElem?_cons_succ, List.set_cons_zero, List.set_cons_succ, lenTs, Int.reduceToNat, Int.reducePow, Int.reduceSub, Int.reduceAdd, Int.reduceMul, Int.reduceNeg, Int.reduceLT, Int.reduceLE, Int.reduceEq, Nat.reduceLT, Nat.reduceLeDiff, Nat.reduceAdd, Nat.reduceSub, Nat.reducePow, bPowL, SZ, tyOf, evI, items_ref, items_tup, live_ref, live_tup, lstOf_new, true_and, and_true, ne_eq, not_true_eq_false, not_false_eq_true, Int.cast_ofNat_Int, decide_eq_true_eq, if_true, if_false, ite_true, ite_false, List.nil_append, isB, String.reduceBEq, String.reduceEq, decide_true, decide_false, Bool.false_eq_true, Bool.or_false, Bool.and_false, Bool.or_true, Bool.and_true, Bool.true_and, Bool.false_and, Bool.not_true, Bool.not_false, ite_true, ite_false, reduceIte, Bool.true_or, Bool.false_or, gt_iff_lt, ge_iff_le, iM1, iM1', iM2, cut_last, cut_last2, slT, fTupL, fTupT, fListL, fInt, fIntB, wipe0, wipe1, tNs, tsNs, inT, isBl, notBl, List.all_cons, List.all_nil, List.any_cons, List.any_nil, flP, eqP, isBlB, notRef, lit_beq, List.append_nil, List.not_mem_nil, isNonB, Int.neg_neg, Int.reduceNegSucc, d_entered, b_entered, ha, fLenL]
  have e : (List.replicate (size - vals.length).toNat [PV.non]).flatten = List.replicate (size - vals.length).toNat PV.non := by
    generalize (size - vals.length).toNat = m
    induction m with
    | zero => rfl
    | succ m ih => rw [List.replicate_succ, List.replicate_succ, List.flatten_cons, ih]; rfl
  refine ⟨⟨nofun, by omega, by omega, by simp⟩, ?_⟩
  rw [e]
  exact ⟨by show _ ≤ 16777216; rw [List.length_replicate]; omega, q⟩
theorem s_places {k : Nat} {h : PH} {Q : KQ} {X : KX} (q : Q (.ref h.length) (h ++ [.ins n_Places [(n_pairs, .ref (h.length + 1))]] ++ [.dic []])) : callS sgT (k + 2) (.mk n_Places) [] h Q X := by
  refine ⟨cPlaces, c_Places, ?_⟩
  rw [show cPlaces.init = n_Places___init__ from rfl, call_in (d := d_Places___init__) rfl rfl]
  simp only [evB, evS, evE, evEs, evO, evC, evT, evG, evGs, bAdd, bAddT, bSub, bMulL, bMulR, bDivL, bModL, cLt, cLe, cGt, cGe, cIs, cNot, iT0, iT1, fMin, fMax, fAbs, fLenT, tyT, tyI, tyB, tyS, truB, truI, ex_int, ex_bl, ex_tup, ex_some, ex_cons, eq_self, ex_var, eq_int, ne_int, eq_lit, ne_lit, startL, List.map_cons, List.map_nil, List.cons_append, List.nil_append, List.length_cons, List.length_nil, List.replicate, List.getElem?_cons_zero, List.getElem?_cons_succ, List.set_cons_zero, List.set_cons_succ, lenTs, Int.reduceToNat, Int.reducePow, Int.reduceSub, Int.reduceAdd, Int.reduceMul, Int.reduceNeg, Int.reduceLT, Int.reduceLE, Int.reduceEq, Nat.reduceLT, Nat.reduceLeDiff, Nat.reduceAdd, Nat.reduceSub, Nat.reducePow, bPowL, SZ, tyOf, evI, items_ref, items_tup, live_ref, live_tup, lstOf_new, true_and, and_true, ne_eq, not_true_eq_false, not_false_eq_true, Int.cast_ofNat_Int, decide_eq_true_eq, if_true, if_false, ite_true, ite_false, List.nil_append, isB, String.reduceBEq, String.reduceEq, decide_true, decide_false, Bool.false_eq_true, Bool.or_false, Bool.and_false, Bool.or_true, Bool.and_true, Bool.true_and, Bool.false_and, Bool.not_true, Bool.not_false, ite_true, ite_false, reduceIte, Bool.true_or, Bool.false_or, gt_iff_lt, ge_iff_le, iM1, iM1', iM2, cut_last, cut_last2, slT, fTupL, fTupT, fListL, fInt, fIntB, wipe0, wipe1, tNs, tsNs, inT, isBl, notBl, List.all_cons, List.all_nil, List.any_cons, List.any_nil, flP, eqP, isBlB, notRef, lit_beq, List.append_nil, List.not_mem_nil, isNonB, Int.neg_neg, Int.reduceNegSucc, d_Places___init__, b_Places___init__]
  have e : (h ++ [PO.ins n_Places []])[h.length]? = some (.ins n_Places []) := get_new
  rw [ex_set (get_app e) c_Places (show cPlaces.fields.contains n_pairs = true from rfl) (by simp)]
  rw [List.set_append_left _ _ (by simp), set_new, List.length_append]
  exact q
def st0 (nb : Int) (vals : List PV) (size : Int) : St := ⟨[⟨nb, 0, vals ++ List.replicate (size - vals.length).toNat .non, []⟩], [], 0, 0, 0, 0, .non, fun _ => []⟩
theorem s_machine {blocks tables nums : Nat} {code : List PV} {tb : List Nat} {tabs : List (List PV)} {vals : List PV} {most size : Int} {keeps : Bool} {many rows : PV} (hb : lstOf h (.ref blocks) = some code) (ht : lstOf h (.ref tables) = some (tb.map .ref)) (htl : tb.length = tabs.length) (htt : ∀ (i : Nat) (t : Nat), tb[i]? = some t → ∃ xs, tabs[i]? = some xs ∧ lstOf h (.ref t) = some xs) (htz : tb.length < 1000)
    (hn : lstOf h (.ref nums) = some vals) (hlast : atI code (-1) = some (.tup [many, .int size, rows])) (z0 : 0 ≤ size - vals.length) (z1 : size - vals.length ≤ 900) (z2 : vals.length ≤ 900)
    (q : ∀ (h' : PH) (p ac ah sp ap am d : Nat) (th : List Nat), Kept h h' → h.length ≤ h'.length → MC ⟨code, tabs, most, keeps⟩ (fun a => h.length ≤ a ∧ a < h'.length) 0 h' p ac ah sp ap am d th (st0 (code.length - 1) vals size) → Q (.ref p) h') :
    callS sgT (k + 4) (.mk n_Machine) [.ref blocks, .ref tables, .ref nums, .int most, .bl keeps] h Q X := by
  refine ⟨cMachine, c_Machine, ?_⟩
  rw [show cMachine.init = n_Machine___init__ from rfl, call_in (d := d_Machine___init__) rfl rfl]
  have lk : ∀ {h' : PH} {a : Nat} {xs : List PV}, Kept h h' → lstOf h (.ref a) = some xs → lstOf h' (.ref a) = some xs := by
    intro h' a xs hk e2
    unfold lstOf at e2 ⊢
    dsimp only at e2 ⊢
    cases q : h[a]? with
    | none => rw [q] at e2; cases e2
    | some o => rw [hk a o q]; rw [q] at e2; exact e2
  simp only [evB, evS, evE, evEs, evO, evC, evT, evG, evGs, bAdd, bAddT, bSub, bMulL, bMulR, bDivL, bModL, cLt, cLe, cGt, cGe, cIs, cNot, iT0, iT1, fMin, fMax, fAbs, fLenT, tyT, tyI, tyB, tyS, truB, truI, ex_int, ex_bl, ex_tup, ex_some, ex_cons, eq_self, ex_var, eq_int, ne_int, eq_lit, ne_lit, startL, List.map_cons, List.map_nil, List.cons_append, List.nil_append, List.length_cons, List.length_nil, List.replicate, List.getElem?_cons_zero, List.getElem?_cons_succ, List.set_cons_zero, List.set_cons_succ, lenTs, Int.reduceToNat, Int.reducePow, Int.reduceSub, Int.reduceAdd, Int.reduceMul, Int.reduceNeg, Int.reduceLT, Int.reduceLE, Int.reduceEq, Nat.reduceLT, Nat.reduceLeDiff, Nat.reduceAdd, Nat.reduceSub, Nat.reducePow, bPowL, SZ, tyOf, evI, items_ref, items_tup, live_ref, live_tup, lstOf_new, true_and, and_true, ne_eq, not_true_eq_false, not_false_eq_true, Int.cast_ofNat_Int, decide_eq_true_eq, if_true, if_false, ite_true, ite_false, List.nil_append, isB, String.reduceBEq, String.reduceEq, decide_true, decide_false, Bool.false_eq_true, Bool.or_false, Bool.and_false, Bool.or_true, Bool.and_true, Bool.true_and, Bool.false_and, Bool.not_true, Bool.not_false, ite_true, ite_false, reduceIte, Bool.true_or, Bool.false_or, gt_iff_lt, ge_iff_le, iM1, iM1', iM2, cut_last, cut_last2, slT, fTupL, fTupT, fListL, fInt, fIntB, wipe0, wipe1, tNs, tsNs, inT, isBl, notBl, List.all_cons, List.all_nil, List.any_cons, List.any_nil, flP, eqP, isBlB, notRef, lit_beq, List.append_nil, List.not_mem_nil, isNonB, Int.neg_neg, Int.reduceNegSucc, d_Machine___init__, b_Machine___init__]
  refine ⟨_, lstOf_app hb, ?_⟩
  have e1 : (h ++ [PO.ins n_Machine []])[h.length]? = some (.ins n_Machine []) := get_new
  have hl1 : h.length < (h ++ [PO.ins n_Machine []] ++ [PO.lst code]).length := by simp
  rw [ex_set (get_app e1) c_Machine (show cMachine.fields.contains n_code = true from rfl) (by simp)]
  have ac1 : ((h ++ [PO.ins n_Machine []] ++ [PO.lst code]).set h.length (.ins n_Machine (putN n_code (.ref (h ++ [PO.ins n_Machine []]).length) [])))[(h ++ [PO.ins n_Machine []]).length]? = some (.lst code) := get_set_ne get_new (by simp)
  have I1 : ((h ++ [PO.ins n_Machine []] ++ [PO.lst code]).set h.length (.ins n_Machine (putN n_code (.ref (h ++ [PO.ins n_Machine []]).length) [])))[h.length]? = some (.ins n_Machine (putN n_code (.ref (h ++ [PO.ins n_Machine []]).length) [])) := List.getElem?_set_self hl1
  have K1 : Kept h ((h ++ [PO.ins n_Machine []] ++ [PO.lst code]).set h.length (.ins n_Machine (putN n_code (.ref (h ++ [PO.ins n_Machine []]).length) []))) := fun a o e => get_set_ne (get_app (get_app e)) (by have := (List.getElem?_eq_some_iff.mp e).1; omega)
  have L1 : ((h ++ [PO.ins n_Machine []] ++ [PO.lst code]).set h.length (.ins n_Machine (putN n_code (.ref (h ++ [PO.ins n_Machine []]).length) []))).length = h.length + 2 := by simp
  have eac : (h ++ [PO.ins n_Machine []]).length = h.length + 1 := by simp
  generalize (h ++ [PO.ins n_Machine []] ++ [PO.lst code]).set h.length (.ins n_Machine (putN n_code (.ref (h ++ [PO.ins n_Machine []]).length) [])) = H1 at ac1 I1 K1 L1 ⊢
  rw [eac] at ac1 I1
  refine ⟨_, lk K1 ht, ?_⟩
  refine comp_copies rfl (fun h' hk => ?_) tb tabs (H1 ++ [PO.lst []]) [] [] htl (fun i t e => ?_) (fun t xs h' K e hK => ?_) (fun a o e => get_app e) get_new rfl (fun i t e => by simp at e) (by simpa using htz) fun H2 th K2 hah tl tt => ?_
  · exact lk (fun a o e => hk a o (K1 a o e)) ht
  · obtain ⟨xs, a, b⟩ := htt i t e
    exact ⟨xs, a, lk K1 b⟩
  · exact ⟨_, e, hK⟩
  rw [List.nil_append] at tl
  have tt : ∀ (i : Nat) (t : Nat), th[i]? = some t → H1.length < t ∧ ∃ xs, tabs[i]? = some xs ∧ H2[t]? = some (PO.lst xs) := tt
  have lH2 : H1.length < H2.length := (List.getElem?_eq_some_iff.mp hah).1
  have I2 := K2 _ _ I1
  have ac2 := K2 _ _ ac1
  have KH2 : Kept h H2 := fun a o e => K2 a o (K1 a o e)
  have lP : h.length < H2.length := by omega
  rw [ex_set I2 c_Machine (show cMachine.fields.contains n_by_house = true from rfl) (by show (1 : Nat) < 900; omega)]
  rw [ex_set (List.getElem?_set_self lP) c_Machine (show cMachine.fields.contains n_bound = true from rfl) (by show (2 : Nat) < 900; omega), List.set_set]
  rw [ex_set (List.getElem?_set_self lP) c_Machine (show cMachine.fields.contains n_keeps = true from rfl) (by show (3 : Nat) < 900; omega), List.set_set]
  have KL : ∀ (H H' : PH) (a : Nat) (o : PO), Stays [h.length] H H' → a ≠ h.length → H[a]? = some o → H'[a]? = some o := fun H H' a o s n e => s.at_ a o (by simpa using n) e
  have I3 : (H2.set h.length (.ins n_Machine [(n_code, .ref (h.length + 1)), (n_by_house, .ref H1.length), (n_bound, .int most), (n_keeps, .bl keeps)]))[h.length]? = some (.ins n_Machine [(n_code, .ref (h.length + 1)), (n_by_house, .ref H1.length), (n_bound, .int most), (n_keeps, .bl keeps)]) := List.getElem?_set_self lP
  have S3 : Stays [h.length] H2 (H2.set h.length (.ins n_Machine [(n_code, .ref (h.length + 1)), (n_by_house, .ref H1.length), (n_bound, .int most), (n_keeps, .bl keeps)])) := Stays.set (by simp)
  have L3 : (H2.set h.length (.ins n_Machine [(n_code, .ref (h.length + 1)), (n_by_house, .ref H1.length), (n_bound, .int most), (n_keeps, .bl keeps)])).length = H2.length := by simp
  show callS sgT (k + 2) (FR.mk n_Places) [] (H2.set h.length (.ins n_Machine [(n_code, .ref (h.length + 1)), (n_by_house, .ref H1.length), (n_bound, .int most), (n_keeps, .bl keeps)])) _ _
  generalize H2.set h.length (.ins n_Machine [(n_code, .ref (h.length + 1)), (n_by_house, .ref H1.length), (n_bound, .int most), (n_keeps, .bl keeps)]) = H3 at I3 S3 L3 ⊢
  refine s_places ?_
  rw [ex_set (get_app (get_app I3)) c_Machine (show cMachine.fields.contains n_spots = true from rfl) (by simp)]
  have hP3 : h.length < (H3 ++ [PO.ins n_Places [(n_pairs, .ref (H3.length + 1))]] ++ [PO.dic []]).length := by simp; omega
  have I4 : ((H3 ++ [PO.ins n_Places [(n_pairs, .ref (H3.length + 1))]] ++ [PO.dic []]).set h.length (.ins n_Machine [(n_code, .ref (h.length + 1)), (n_by_house, .ref H1.length), (n_bound, .int most), (n_keeps, .bl keeps), (n_spots, .ref H3.length)]))[h.length]? = some (.ins n_Machine [(n_code, .ref (h.length + 1)), (n_by_house, .ref H1.length), (n_bound, .int most), (n_keeps, .bl keeps), (n_spots, .ref H3.length)]) := List.getElem?_set_self hP3
  have S4 : Stays [h.length] H3 ((H3 ++ [PO.ins n_Places [(n_pairs, .ref (H3.length + 1))]] ++ [PO.dic []]).set h.length (.ins n_Machine [(n_code, .ref (h.length + 1)), (n_by_house, .ref H1.length), (n_bound, .int most), (n_keeps, .bl keeps), (n_spots, .ref H3.length)])) := (Stays.app.trans Stays.app).trans (Stays.set (by simp))
  have L4 : ((H3 ++ [PO.ins n_Places [(n_pairs, .ref (H3.length + 1))]] ++ [PO.dic []]).set h.length (.ins n_Machine [(n_code, .ref (h.length + 1)), (n_by_house, .ref H1.length), (n_bound, .int most), (n_keeps, .bl keeps), (n_spots, .ref H3.length)])).length = H3.length + 2 := by simp
  have sp4 : ((H3 ++ [PO.ins n_Places [(n_pairs, .ref (H3.length + 1))]] ++ [PO.dic []]).set h.length (.ins n_Machine [(n_code, .ref (h.length + 1)), (n_by_house, .ref H1.length), (n_bound, .int most), (n_keeps, .bl keeps), (n_spots, .ref H3.length)]))[H3.length]? = some (.ins n_Places [(n_pairs, .ref (H3.length + 1))]) := get_set_ne (get_app get_new) (by omega)
  have d4 : ((H3 ++ [PO.ins n_Places [(n_pairs, .ref (H3.length + 1))]] ++ [PO.dic []]).set h.length (.ins n_Machine [(n_code, .ref (h.length + 1)), (n_by_house, .ref H1.length), (n_bound, .int most), (n_keeps, .bl keeps), (n_spots, .ref H3.length)]))[H3.length + 1]? = some (.dic []) := get_set_ne (by rw [List.getElem?_append_right (by simp), List.length_append]; simp) (by omega)
  rw [show putN n_spots (PV.ref H3.length) [(n_code, .ref (h.length + 1)), (n_by_house, .ref H1.length), (n_bound, .int most), (n_keeps, .bl keeps)] = [(n_code, .ref (h.length + 1)), (n_by_house, .ref H1.length), (n_bound, .int most), (n_keeps, .bl keeps), (n_spots, .ref H3.length)] from rfl]
  generalize (H3 ++ [PO.ins n_Places [(n_pairs, .ref (H3.length + 1))]] ++ [PO.dic []]).set h.length (.ins n_Machine [(n_code, .ref (h.length + 1)), (n_by_house, .ref H1.length), (n_bound, .int most), (n_keeps, .bl keeps), (n_spots, .ref H3.length)]) = H4 at I4 S4 L4 sp4 d4 ⊢
  have ac4 : H4[h.length + 1]? = some (.lst code) := KL _ _ _ _ (S3.trans S4) (by omega) ac2
  have K4 : Kept h H4 := fun a o e => KL _ _ _ _ (S3.trans S4) (by have := (List.getElem?_eq_some_iff.mp e).1; omega) (KH2 a o e)
  rw [ex_attr I4 c_Machine (show cMachine.fields.contains n_code = true from rfl) (show getN n_code _ = some (.ref (h.length + 1)) from rfl), iRef]
  refine ⟨_, lst_got ac4, _, hlast, ?_⟩
  rw [ex_attr I4 c_Machine (show cMachine.fields.contains n_code = true from rfl) (show getN n_code _ = some (.ref (h.length + 1)) from rfl)]
  rw [fLenL]
  refine ⟨_, lst_got ac4, ?_⟩
  simp only [evB, evS, evE, evEs, evO, evC, evT, evG, evGs, bAdd, bAddT, bSub, bMulL, bMulR, bDivL, bModL, cLt, cLe, cGt, cGe, cIs, cNot, iT0, iT1, fMin, fMax, fAbs, fLenT, tyT, tyI, tyB, tyS, truB, truI, ex_int, ex_bl, ex_tup, ex_some, ex_cons, eq_self, ex_var, eq_int, ne_int, eq_lit, ne_lit, startL, List.map_cons, List.map_nil, List.cons_append, List.nil_append, List.length_cons, List.length_nil, List.replicate, List.getElem?_cons_zero, List.getElem?_cons_succ, List.set_cons_zero, List.set_cons_succ, lenTs, Int.reduceToNat, Int.reducePow, Int.reduceSub, Int.reduceAdd, Int.reduceMul, Int.reduceNeg, Int.reduceLT, Int.reduceLE, Int.reduceEq, Nat.reduceLT, Nat.reduceLeDiff, Nat.reduceAdd, Nat.reduceSub, Nat.reducePow, bPowL, SZ, tyOf, evI, items_ref, items_tup, live_ref, live_tup, lstOf_new, true_and, and_true, ne_eq, not_true_eq_false, not_false_eq_true, Int.cast_ofNat_Int, decide_eq_true_eq, if_true, if_false, ite_true, ite_false, List.nil_append, isB, String.reduceBEq, String.reduceEq, decide_true, decide_false, Bool.false_eq_true, Bool.or_false, Bool.and_false, Bool.or_true, Bool.and_true, Bool.true_and, Bool.false_and, Bool.not_true, Bool.not_false, ite_true, ite_false, reduceIte, Bool.true_or, Bool.false_or, gt_iff_lt, ge_iff_le, iM1, iM1', iM2, cut_last, cut_last2, slT, fTupL, fTupT, fListL, fInt, fIntB, wipe0, wipe1, tNs, tsNs, inT, isBl, notBl, List.all_cons, List.all_nil, List.any_cons, List.any_nil, flP, eqP, isBlB, notRef, lit_beq, List.append_nil, List.not_mem_nil, isNonB, Int.neg_neg, Int.reduceNegSucc]
  refine s_enteredL (lk K4 hn) z0 z1 z2 ?_
  rw [ex_set (get_app I4) c_Machine (show cMachine.fields.contains n_pile = true from rfl) (by simp)]
  rw [show putN n_pile (PV.ref H4.length) [(n_code, .ref (h.length + 1)), (n_by_house, .ref H1.length), (n_bound, .int most), (n_keeps, .bl keeps), (n_spots, .ref H3.length)] = [(n_code, .ref (h.length + 1)), (n_by_house, .ref H1.length), (n_bound, .int most), (n_keeps, .bl keeps), (n_spots, .ref H3.length), (n_pile, .ref H4.length)] from rfl]
  have hP4 : h.length < (H4 ++ [PO.lst [frV (code.length - 1) 0 (vals ++ List.replicate (size - vals.length).toNat .non) []]]).length := by simp; omega
  have I5 : ((H4 ++ [PO.lst [frV (code.length - 1) 0 (vals ++ List.replicate (size - vals.length).toNat .non) []]]).set h.length (.ins n_Machine [(n_code, .ref (h.length + 1)), (n_by_house, .ref H1.length), (n_bound, .int most), (n_keeps, .bl keeps), (n_spots, .ref H3.length), (n_pile, .ref H4.length)]))[h.length]? = some (.ins n_Machine [(n_code, .ref (h.length + 1)), (n_by_house, .ref H1.length), (n_bound, .int most), (n_keeps, .bl keeps), (n_spots, .ref H3.length), (n_pile, .ref H4.length)]) := List.getElem?_set_self hP4
  have S5 : Stays [h.length] H4 ((H4 ++ [PO.lst [frV (code.length - 1) 0 (vals ++ List.replicate (size - vals.length).toNat .non) []]]).set h.length (.ins n_Machine [(n_code, .ref (h.length + 1)), (n_by_house, .ref H1.length), (n_bound, .int most), (n_keeps, .bl keeps), (n_spots, .ref H3.length), (n_pile, .ref H4.length)])) := Stays.app.trans (Stays.set (by simp))
  have L5 : ((H4 ++ [PO.lst [frV (code.length - 1) 0 (vals ++ List.replicate (size - vals.length).toNat .non) []]]).set h.length (.ins n_Machine [(n_code, .ref (h.length + 1)), (n_by_house, .ref H1.length), (n_bound, .int most), (n_keeps, .bl keeps), (n_spots, .ref H3.length), (n_pile, .ref H4.length)])).length = H4.length + 1 := by simp
  have ap5 : ((H4 ++ [PO.lst [frV (code.length - 1) 0 (vals ++ List.replicate (size - vals.length).toNat .non) []]]).set h.length (.ins n_Machine [(n_code, .ref (h.length + 1)), (n_by_house, .ref H1.length), (n_bound, .int most), (n_keeps, .bl keeps), (n_spots, .ref H3.length), (n_pile, .ref H4.length)]))[H4.length]? = some (.lst [frV (code.length - 1) 0 (vals ++ List.replicate (size - vals.length).toNat .non) []]) := get_set_ne get_new (by omega)
  generalize (H4 ++ [PO.lst [frV (code.length - 1) 0 (vals ++ List.replicate (size - vals.length).toNat .non) []]]).set h.length (.ins n_Machine [(n_code, .ref (h.length + 1)), (n_by_house, .ref H1.length), (n_bound, .int most), (n_keeps, .bl keeps), (n_spots, .ref H3.length), (n_pile, .ref H4.length)]) = H5 at I5 S5 L5 ap5 ⊢
  rw [ex_set (get_app I5) c_Machine (show cMachine.fields.contains n_made = true from rfl) (by simp)]
  rw [show putN n_made (PV.ref H5.length) [(n_code, .ref (h.length + 1)), (n_by_house, .ref H1.length), (n_bound, .int most), (n_keeps, .bl keeps), (n_spots, .ref H3.length), (n_pile, .ref H4.length)] = [(n_code, .ref (h.length + 1)), (n_by_house, .ref H1.length), (n_bound, .int most), (n_keeps, .bl keeps), (n_spots, .ref H3.length), (n_pile, .ref H4.length), (n_made, .ref H5.length)] from rfl]
  have hP5 : h.length < (H5 ++ [PO.lst []]).length := by simp; omega
  have I6 : ((H5 ++ [PO.lst []]).set h.length (.ins n_Machine [(n_code, .ref (h.length + 1)), (n_by_house, .ref H1.length), (n_bound, .int most), (n_keeps, .bl keeps), (n_spots, .ref H3.length), (n_pile, .ref H4.length), (n_made, .ref H5.length)]))[h.length]? = some (.ins n_Machine [(n_code, .ref (h.length + 1)), (n_by_house, .ref H1.length), (n_bound, .int most), (n_keeps, .bl keeps), (n_spots, .ref H3.length), (n_pile, .ref H4.length), (n_made, .ref H5.length)]) := List.getElem?_set_self hP5
  have S6 : Stays [h.length] H5 ((H5 ++ [PO.lst []]).set h.length (.ins n_Machine [(n_code, .ref (h.length + 1)), (n_by_house, .ref H1.length), (n_bound, .int most), (n_keeps, .bl keeps), (n_spots, .ref H3.length), (n_pile, .ref H4.length), (n_made, .ref H5.length)])) := Stays.app.trans (Stays.set (by simp))
  have L6 : ((H5 ++ [PO.lst []]).set h.length (.ins n_Machine [(n_code, .ref (h.length + 1)), (n_by_house, .ref H1.length), (n_bound, .int most), (n_keeps, .bl keeps), (n_spots, .ref H3.length), (n_pile, .ref H4.length), (n_made, .ref H5.length)])).length = H5.length + 1 := by simp
  have am6 : ((H5 ++ [PO.lst []]).set h.length (.ins n_Machine [(n_code, .ref (h.length + 1)), (n_by_house, .ref H1.length), (n_bound, .int most), (n_keeps, .bl keeps), (n_spots, .ref H3.length), (n_pile, .ref H4.length), (n_made, .ref H5.length)]))[H5.length]? = some (.lst []) := get_set_ne get_new (by omega)
  generalize (H5 ++ [PO.lst []]).set h.length (.ins n_Machine [(n_code, .ref (h.length + 1)), (n_by_house, .ref H1.length), (n_bound, .int most), (n_keeps, .bl keeps), (n_spots, .ref H3.length), (n_pile, .ref H4.length), (n_made, .ref H5.length)]) = H6 at I6 S6 L6 am6 ⊢
  have lP6 : h.length < H6.length := by omega
  rw [ex_set I6 c_Machine (show cMachine.fields.contains n_counted = true from rfl) (by simp)]
  rw [ex_set (List.getElem?_set_self lP6) c_Machine (show cMachine.fields.contains n_sought = true from rfl) (by show (8 : Nat) < 900; omega), List.set_set]
  rw [ex_set (List.getElem?_set_self lP6) c_Machine (show cMachine.fields.contains n_met = true from rfl) (by show (9 : Nat) < 900; omega), List.set_set]
  rw [ex_set (List.getElem?_set_self lP6) c_Machine (show cMachine.fields.contains n_gone = true from rfl) (by show (10 : Nat) < 900; omega), List.set_set]
  rw [ex_set (List.getElem?_set_self lP6) c_Machine (show cMachine.fields.contains n_ended = true from rfl) (by show (11 : Nat) < 900; omega), List.set_set]
  have S7 : Stays [h.length] H6 (H6.set h.length (.ins n_Machine (fM ⟨code, tabs, most, keeps⟩ (h.length + 1) H1.length H3.length H4.length H5.length (st0 (code.length - 1) vals size)))) := Stays.set (by simp)
  have I7 : (H6.set h.length (.ins n_Machine (fM ⟨code, tabs, most, keeps⟩ (h.length + 1) H1.length H3.length H4.length H5.length (st0 (code.length - 1) vals size))))[h.length]? = some (.ins n_Machine (fM ⟨code, tabs, most, keeps⟩ (h.length + 1) H1.length H3.length H4.length H5.length (st0 (code.length - 1) vals size))) := List.getElem?_set_self lP6
  have L7 : (H6.set h.length (.ins n_Machine (fM ⟨code, tabs, most, keeps⟩ (h.length + 1) H1.length H3.length H4.length H5.length (st0 (code.length - 1) vals size)))).length = H6.length := by simp
  have goal : Q (PV.ref h.length) (H6.set h.length (.ins n_Machine (fM ⟨code, tabs, most, keeps⟩ (h.length + 1) H1.length H3.length H4.length H5.length (st0 (code.length - 1) vals size)))) := by
    generalize H6.set h.length (.ins n_Machine (fM ⟨code, tabs, most, keeps⟩ (h.length + 1) H1.length H3.length H4.length H5.length (st0 (code.length - 1) vals size))) = H7 at S7 I7 L7 ⊢
    have S47 := S5.trans (S6.trans S7)
    have S27 := (S3.trans S4).trans S47
    have tlt : ∀ (i t : Nat), th[i]? = some t → t < H2.length := fun i t e => by
      obtain ⟨_, xs, _, b⟩ := tt i t e
      exact (List.getElem?_eq_some_iff.mp b).1
    have tlt' : ∀ t ∈ th, H1.length < t ∧ t < H2.length := fun t ht => by
      obtain ⟨i, hi⟩ := List.getElem?_of_mem ht
      exact ⟨(tt i t hi).1, tlt i t hi⟩
    refine q H7 h.length (h.length + 1) H1.length H3.length H4.length H5.length (H3.length + 1) th (fun a o e => KL _ _ _ _ S47 (by have := (List.getElem?_eq_some_iff.mp e).1; omega) (K4 a o e)) (by omega) ?_
    refine ⟨I7, KL _ _ _ _ S47 (by omega) sp4, KL _ _ _ _ (S6.trans S7) (by omega) ap5, KL _ _ _ _ S7 (by omega) am6, KL _ _ _ _ S47 (by omega) ac4, KL _ _ _ _ S27 (by omega) hah, ⟨tl, fun i t e => ?_⟩, ?_, ?_, ?_⟩
    · obtain ⟨a, xs, b, c⟩ := tt i t e
      exact ⟨xs, b, KL _ _ _ _ S27 (by omega) c⟩
    · exact ⟨[], KL _ _ _ _ S47 (by omega) d4, Nat.le_refl _, fun s => rfl⟩
    · refine ⟨?_, ?_, ?_, ?_, ?_, ?_, ?_, fun t ht => ?_⟩
      all_goals first | (have := tlt' t ht; constructor <;> omega) | (constructor <;> omega)
    · refine ⟨by omega, by omega, by omega, by omega, by omega, fun t ht => ?_⟩
      have := tlt' t ht
      constructor <;> omega
  exact goal
theorem s_machine3 {a b c : PV} (q : callS sgT (k + 1) (.mk n_Machine) [a, b, c, .int 100, .bl true] h Q X) : callS sgT (k + 1) (.mk n_Machine) [a, b, c] h Q X := by
  obtain ⟨cd, e, q⟩ := q
  refine ⟨cd, e, ?_⟩
  cases k with
  | zero => exact q.elim
  | succ k =>
    rw [c_Machine] at e; cases e
    obtain ⟨d, e1, e2, e3, q⟩ := q
    cases (show d_Machine___init__ = d from Option.some.inj e1)
    exact ⟨d_Machine___init__, rfl, rfl, by show 4 ≤ 6; omega, q⟩
end
section
variable {C : Cf} {Fp : Nat → Prop} {n k : Nat} {h : PH} {p ac ah sp ap am d : Nat} {th : List Nat} {s : St} {Q : KQ} {X : KX}
theorem e_frames (M : MC C Fp n h p ac ah sp ap am d th s) (q : Q (.ref h.length) (h ++ [PO.lst (s.pile.map Fr.v)])) : callS sgT (k + 1) (.fn n_Machine_frames) [.ref p] h Q X := by
  rw [call_in (d := d_Machine_frames) rfl rfl]
  simp only [evB, evS, evE, evEs, evO, evC, evT, evG, evGs, bAdd, bAddT, bSub, bMulL, bMulR, bDivL, bModL, cLt, cLe, cGt, cGe, cIs, cNot, iT0, iT1, fMin, fMax, fAbs, fLenT, tyT, tyI, tyB, tyS, truB, truI, ex_int, ex_bl, ex_tup, ex_some, ex_cons, eq_self, ex_var, eq_int, ne_int, eq_lit, ne_lit, startL, List.map_cons, List.map_nil, List.cons_append, List.nil_append, List.length_cons, List.length_nil, List.replicate, List.getElem?_cons_zero, List.getElem?_cons_succ, List.set_cons_zero, List.set_cons_succ, lenTs, Int.reduceToNat, Int.reducePow, Int.reduceSub, Int.reduceAdd, Int.reduceMul, Int.reduceNeg, Int.reduceLT, Int.reduceLE, Int.reduceEq, Nat.reduceLT, Nat.reduceLeDiff, Nat.reduceAdd, Nat.reduceSub, Nat.reducePow, bPowL, SZ, tyOf, evI, items_ref, items_tup, live_ref, live_tup, lstOf_new, true_and, and_true, ne_eq, not_true_eq_false, not_false_eq_true, Int.cast_ofNat_Int, decide_eq_true_eq, if_true, if_false, ite_true, ite_false, List.nil_append, isB, String.reduceBEq, String.reduceEq, decide_true, decide_false, Bool.false_eq_true, Bool.or_false, Bool.and_false, Bool.or_true, Bool.and_true, Bool.true_and, Bool.false_and, Bool.not_true, Bool.not_false, ite_true, ite_false, reduceIte, Bool.true_or, Bool.false_or, gt_iff_lt, ge_iff_le, iM1, iM1', iM2, cut_last, cut_last2, slT, fTupL, fTupT, fListL, fInt, fIntB, wipe0, wipe1, tNs, tsNs, inT, isBl, notBl, List.all_cons, List.all_nil, List.any_cons, List.any_nil, flP, eqP, isBlB, notRef, lit_beq, List.append_nil, List.not_mem_nil, isNonB, Int.neg_neg, Int.reduceNegSucc, d_Machine_frames, b_Machine_frames]
  rw [rd_pile M.ins]
  exact ⟨_, lst_got M.pile, q⟩
theorem e_things (M : MC C Fp n h p ac ah sp ap am d th s) (q : Q (.ref h.length) (h ++ [PO.lst s.made])) : callS sgT (k + 1) (.fn n_Machine_things) [.ref p] h Q X := by
  rw [call_in (d := d_Machine_things) rfl rfl]
  simp only [evB, evS, evE, evEs, evO, evC, evT, evG, evGs, bAdd, bAddT, bSub, bMulL, bMulR, bDivL, bModL, cLt, cLe, cGt, cGe, cIs, cNot, iT0, iT1, fMin, fMax, fAbs, fLenT, tyT, tyI, tyB, tyS, truB, truI, ex_int, ex_bl, ex_tup, ex_some, ex_cons, eq_self, ex_var, eq_int, ne_int, eq_lit, ne_lit, startL, List.map_cons, List.map_nil, List.cons_append, List.nil_append, List.length_cons, List.length_nil, List.replicate, List.getElem?_cons_zero, List.getElem?_cons_succ, List.set_cons_zero, List.set_cons_succ, lenTs, Int.reduceToNat, Int.reducePow, Int.reduceSub, Int.reduceAdd, Int.reduceMul, Int.reduceNeg, Int.reduceLT, Int.reduceLE, Int.reduceEq, Nat.reduceLT, Nat.reduceLeDiff, Nat.reduceAdd, Nat.reduceSub, Nat.reducePow, bPowL, SZ, tyOf, evI, items_ref, items_tup, live_ref, live_tup, lstOf_new, true_and, and_true, ne_eq, not_true_eq_false, not_false_eq_true, Int.cast_ofNat_Int, decide_eq_true_eq, if_true, if_false, ite_true, ite_false, List.nil_append, isB, String.reduceBEq, String.reduceEq, decide_true, decide_false, Bool.false_eq_true, Bool.or_false, Bool.and_false, Bool.or_true, Bool.and_true, Bool.true_and, Bool.false_and, Bool.not_true, Bool.not_false, ite_true, ite_false, reduceIte, Bool.true_or, Bool.false_or, gt_iff_lt, ge_iff_le, iM1, iM1', iM2, cut_last, cut_last2, slT, fTupL, fTupT, fListL, fInt, fIntB, wipe0, wipe1, tNs, tsNs, inT, isBl, notBl, List.all_cons, List.all_nil, List.any_cons, List.any_nil, flP, eqP, isBlB, notRef, lit_beq, List.append_nil, List.not_mem_nil, isNonB, Int.neg_neg, Int.reduceNegSucc, d_Machine_things, b_Machine_things]
  rw [rd_made M.ins]
  exact ⟨_, lst_got M.made, q⟩
theorem e_answer (M : MC C Fp n h p ac ah sp ap am d th s) : callS sgT (k + 1) (.fn n_Machine_answer) [.ref p] h Q X = Q s.ended h := by
  rw [call_in (d := d_Machine_answer) rfl rfl]
  simp only [evB, evS, evE, evEs, evO, evC, evT, evG, evGs, bAdd, bAddT, bSub, bMulL, bMulR, bDivL, bModL, cLt, cLe, cGt, cGe, cIs, cNot, iT0, iT1, fMin, fMax, fAbs, fLenT, tyT, tyI, tyB, tyS, truB, truI, ex_int, ex_bl, ex_tup, ex_some, ex_cons, eq_self, ex_var, eq_int, ne_int, eq_lit, ne_lit, startL, List.map_cons, List.map_nil, List.cons_append, List.nil_append, List.length_cons, List.length_nil, List.replicate, List.getElem?_cons_zero, List.getElem?_cons_succ, List.set_cons_zero, List.set_cons_succ, lenTs, Int.reduceToNat, Int.reducePow, Int.reduceSub, Int.reduceAdd, Int.reduceMul, Int.reduceNeg, Int.reduceLT, Int.reduceLE, Int.reduceEq, Nat.reduceLT, Nat.reduceLeDiff, Nat.reduceAdd, Nat.reduceSub, Nat.reducePow, bPowL, SZ, tyOf, evI, items_ref, items_tup, live_ref, live_tup, lstOf_new, true_and, and_true, ne_eq, not_true_eq_false, not_false_eq_true, Int.cast_ofNat_Int, decide_eq_true_eq, if_true, if_false, ite_true, ite_false, List.nil_append, isB, String.reduceBEq, String.reduceEq, decide_true, decide_false, Bool.false_eq_true, Bool.or_false, Bool.and_false, Bool.or_true, Bool.and_true, Bool.true_and, Bool.false_and, Bool.not_true, Bool.not_false, ite_true, ite_false, reduceIte, Bool.true_or, Bool.false_or, gt_iff_lt, ge_iff_le, iM1, iM1', iM2, cut_last, cut_last2, slT, fTupL, fTupT, fListL, fInt, fIntB, wipe0, wipe1, tNs, tsNs, inT, isBl, notBl, List.all_cons, List.all_nil, List.any_cons, List.any_nil, flP, eqP, isBlB, notRef, lit_beq, List.append_nil, List.not_mem_nil, isNonB, Int.neg_neg, Int.reduceNegSucc, d_Machine_answer, b_Machine_answer]
  rw [rd_ended M.ins]
theorem e_calls (M : MC C Fp n h p ac ah sp ap am d th s) : callS sgT (k + 1) (.fn n_Machine_calls) [.ref p] h Q X = Q (.int s.counted) h := by
  rw [call_in (d := d_Machine_calls) rfl rfl]
  simp only [evB, evS, evE, evEs, evO, evC, evT, evG, evGs, bAdd, bAddT, bSub, bMulL, bMulR, bDivL, bModL, cLt, cLe, cGt, cGe, cIs, cNot, iT0, iT1, fMin, fMax, fAbs, fLenT, tyT, tyI, tyB, tyS, truB, truI, ex_int, ex_bl, ex_tup, ex_some, ex_cons, eq_self, ex_var, eq_int, ne_int, eq_lit, ne_lit, startL, List.map_cons, List.map_nil, List.cons_append, List.nil_append, List.length_cons, List.length_nil, List.replicate, List.getElem?_cons_zero, List.getElem?_cons_succ, List.set_cons_zero, List.set_cons_succ, lenTs, Int.reduceToNat, Int.reducePow, Int.reduceSub, Int.reduceAdd, Int.reduceMul, Int.reduceNeg, Int.reduceLT, Int.reduceLE, Int.reduceEq, Nat.reduceLT, Nat.reduceLeDiff, Nat.reduceAdd, Nat.reduceSub, Nat.reducePow, bPowL, SZ, tyOf, evI, items_ref, items_tup, live_ref, live_tup, lstOf_new, true_and, and_true, ne_eq, not_true_eq_false, not_false_eq_true, Int.cast_ofNat_Int, decide_eq_true_eq, if_true, if_false, ite_true, ite_false, List.nil_append, isB, String.reduceBEq, String.reduceEq, decide_true, decide_false, Bool.false_eq_true, Bool.or_false, Bool.and_false, Bool.or_true, Bool.and_true, Bool.true_and, Bool.false_and, Bool.not_true, Bool.not_false, ite_true, ite_false, reduceIte, Bool.true_or, Bool.false_or, gt_iff_lt, ge_iff_le, iM1, iM1', iM2, cut_last, cut_last2, slT, fTupL, fTupT, fListL, fInt, fIntB, wipe0, wipe1, tNs, tsNs, inT, isBl, notBl, List.all_cons, List.all_nil, List.any_cons, List.any_nil, flP, eqP, isBlB, notRef, lit_beq, List.append_nil, List.not_mem_nil, isNonB, Int.neg_neg, Int.reduceNegSucc, d_Machine_calls, b_Machine_calls]
  rw [rd_counted M.ins]
theorem e_looks (M : MC C Fp n h p ac ah sp ap am d th s) : callS sgT (k + 1) (.fn n_Machine_looks) [.ref p] h Q X = Q (.int s.sought) h := by
  rw [call_in (d := d_Machine_looks) rfl rfl]
  simp only [evB, evS, evE, evEs, evO, evC, evT, evG, evGs, bAdd, bAddT, bSub, bMulL, bMulR, bDivL, bModL, cLt, cLe, cGt, cGe, cIs, cNot, iT0, iT1, fMin, fMax, fAbs, fLenT, tyT, tyI, tyB, tyS, truB, truI, ex_int, ex_bl, ex_tup, ex_some, ex_cons, eq_self, ex_var, eq_int, ne_int, eq_lit, ne_lit, startL, List.map_cons, List.map_nil, List.cons_append, List.nil_append, List.length_cons, List.length_nil, List.replicate, List.getElem?_cons_zero, List.getElem?_cons_succ, List.set_cons_zero, List.set_cons_succ, lenTs, Int.reduceToNat, Int.reducePow, Int.reduceSub, Int.reduceAdd, Int.reduceMul, Int.reduceNeg, Int.reduceLT, Int.reduceLE, Int.reduceEq, Nat.reduceLT, Nat.reduceLeDiff, Nat.reduceAdd, Nat.reduceSub, Nat.reducePow, bPowL, SZ, tyOf, evI, items_ref, items_tup, live_ref, live_tup, lstOf_new, true_and, and_true, ne_eq, not_true_eq_false, not_false_eq_true, Int.cast_ofNat_Int, decide_eq_true_eq, if_true, if_false, ite_true, ite_false, List.nil_append, isB, String.reduceBEq, String.reduceEq, decide_true, decide_false, Bool.false_eq_true, Bool.or_false, Bool.and_false, Bool.or_true, Bool.and_true, Bool.true_and, Bool.false_and, Bool.not_true, Bool.not_false, ite_true, ite_false, reduceIte, Bool.true_or, Bool.false_or, gt_iff_lt, ge_iff_le, iM1, iM1', iM2, cut_last, cut_last2, slT, fTupL, fTupT, fListL, fInt, fIntB, wipe0, wipe1, tNs, tsNs, inT, isBl, notBl, List.all_cons, List.all_nil, List.any_cons, List.any_nil, flP, eqP, isBlB, notRef, lit_beq, List.append_nil, List.not_mem_nil, isNonB, Int.neg_neg, Int.reduceNegSucc, d_Machine_looks, b_Machine_looks]
  rw [rd_sought M.ins]
theorem e_hits (M : MC C Fp n h p ac ah sp ap am d th s) : callS sgT (k + 1) (.fn n_Machine_hits) [.ref p] h Q X = Q (.int s.met) h := by
  rw [call_in (d := d_Machine_hits) rfl rfl]
  simp only [evB, evS, evE, evEs, evO, evC, evT, evG, evGs, bAdd, bAddT, bSub, bMulL, bMulR, bDivL, bModL, cLt, cLe, cGt, cGe, cIs, cNot, iT0, iT1, fMin, fMax, fAbs, fLenT, tyT, tyI, tyB, tyS, truB, truI, ex_int, ex_bl, ex_tup, ex_some, ex_cons, eq_self, ex_var, eq_int, ne_int, eq_lit, ne_lit, startL, List.map_cons, List.map_nil, List.cons_append, List.nil_append, List.length_cons, List.length_nil, List.replicate, List.getElem?_cons_zero, List.getElem?_cons_succ, List.set_cons_zero, List.set_cons_succ, lenTs, Int.reduceToNat, Int.reducePow, Int.reduceSub, Int.reduceAdd, Int.reduceMul, Int.reduceNeg, Int.reduceLT, Int.reduceLE, Int.reduceEq, Nat.reduceLT, Nat.reduceLeDiff, Nat.reduceAdd, Nat.reduceSub, Nat.reducePow, bPowL, SZ, tyOf, evI, items_ref, items_tup, live_ref, live_tup, lstOf_new, true_and, and_true, ne_eq, not_true_eq_false, not_false_eq_true, Int.cast_ofNat_Int, decide_eq_true_eq, if_true, if_false, ite_true, ite_false, List.nil_append, isB, String.reduceBEq, String.reduceEq, decide_true, decide_false, Bool.false_eq_true, Bool.or_false, Bool.and_false, Bool.or_true, Bool.and_true, Bool.true_and, Bool.false_and, Bool.not_true, Bool.not_false, ite_true, ite_false, reduceIte, Bool.true_or, Bool.false_or, gt_iff_lt, ge_iff_le, iM1, iM1', iM2, cut_last, cut_last2, slT, fTupL, fTupT, fListL, fInt, fIntB, wipe0, wipe1, tNs, tsNs, inT, isBl, notBl, List.all_cons, List.all_nil, List.any_cons, List.any_nil, flP, eqP, isBlB, notRef, lit_beq, List.append_nil, List.not_mem_nil, isNonB, Int.neg_neg, Int.reduceNegSucc, d_Machine_hits, b_Machine_hits]
  rw [rd_met M.ins]
theorem e_rows (M : MC C Fp n h p ac ah sp ap am d th s) : callS sgT (k + 1) (.fn n_Machine_rows_done) [.ref p] h Q X = Q (.int s.gone) h := by
  rw [call_in (d := d_Machine_rows_done) rfl rfl]
  simp only [evB, evS, evE, evEs, evO, evC, evT, evG, evGs, bAdd, bAddT, bSub, bMulL, bMulR, bDivL, bModL, cLt, cLe, cGt, cGe, cIs, cNot, iT0, iT1, fMin, fMax, fAbs, fLenT, tyT, tyI, tyB, tyS, truB, truI, ex_int, ex_bl, ex_tup, ex_some, ex_cons, eq_self, ex_var, eq_int, ne_int, eq_lit, ne_lit, startL, List.map_cons, List.map_nil, List.cons_append, List.nil_append, List.length_cons, List.length_nil, List.replicate, List.getElem?_cons_zero, List.getElem?_cons_succ, List.set_cons_zero, List.set_cons_succ, lenTs, Int.reduceToNat, Int.reducePow, Int.reduceSub, Int.reduceAdd, Int.reduceMul, Int.reduceNeg, Int.reduceLT, Int.reduceLE, Int.reduceEq, Nat.reduceLT, Nat.reduceLeDiff, Nat.reduceAdd, Nat.reduceSub, Nat.reducePow, bPowL, SZ, tyOf, evI, items_ref, items_tup, live_ref, live_tup, lstOf_new, true_and, and_true, ne_eq, not_true_eq_false, not_false_eq_true, Int.cast_ofNat_Int, decide_eq_true_eq, if_true, if_false, ite_true, ite_false, List.nil_append, isB, String.reduceBEq, String.reduceEq, decide_true, decide_false, Bool.false_eq_true, Bool.or_false, Bool.and_false, Bool.or_true, Bool.and_true, Bool.true_and, Bool.false_and, Bool.not_true, Bool.not_false, ite_true, ite_false, reduceIte, Bool.true_or, Bool.false_or, gt_iff_lt, ge_iff_le, iM1, iM1', iM2, cut_last, cut_last2, slT, fTupL, fTupT, fListL, fInt, fIntB, wipe0, wipe1, tNs, tsNs, inT, isBl, notBl, List.all_cons, List.all_nil, List.any_cons, List.any_nil, flP, eqP, isBlB, notRef, lit_beq, List.append_nil, List.not_mem_nil, isNonB, Int.neg_neg, Int.reduceNegSucc, d_Machine_rows_done, b_Machine_rows_done]
  rw [rd_gone M.ins]
/-- a step behind the end -/
theorem s_step_over (M : MC C Fp n h p ac ah sp ap am d th s) (hp : s.pile = []) (q : Q (.bl false) (h ++ [PO.lst []])) : callS sgT (k + 1) (.fn n_Machine_step) [.ref p] h Q X := by
  rw [call_in (d := d_Machine_step) rfl rfl]
  simp only [evB, evS, evE, evEs, evO, evC, evT, evG, evGs, bAdd, bAddT, bSub, bMulL, bMulR, bDivL, bModL, cLt, cLe, cGt, cGe, cIs, cNot, iT0, iT1, fMin, fMax, fAbs, fLenT, tyT, tyI, tyB, tyS, truB, truI, ex_int, ex_bl, ex_tup, ex_some, ex_cons, eq_self, ex_var, eq_int, ne_int, eq_lit, ne_lit, startL, List.map_cons, List.map_nil, List.cons_append, List.nil_append, List.length_cons, List.length_nil, List.replicate, List.getElem?_cons_zero, List.getElem?_cons_succ, List.set_cons_zero, List.set_cons_succ, lenTs, Int.reduceToNat, Int.reducePow, Int.reduceSub, Int.reduceAdd, Int.reduceMul, Int.reduceNeg, Int.reduceLT, Int.reduceLE, Int.reduceEq, Nat.reduceLT, Nat.reduceLeDiff, Nat.reduceAdd, Nat.reduceSub, Nat.reducePow, bPowL, SZ, tyOf, evI, items_ref, items_tup, live_ref, live_tup, lstOf_new, true_and, and_true, ne_eq, not_true_eq_false, not_false_eq_true, Int.cast_ofNat_Int, decide_eq_true_eq, if_true, if_false, ite_true, ite_false, List.nil_append, isB, String.reduceBEq, String.reduceEq, decide_true, decide_false, Bool.false_eq_true, Bool.or_false, Bool.and_false, Bool.or_true, Bool.and_true, Bool.true_and, Bool.false_and, Bool.not_true, Bool.not_false, ite_true, ite_false, reduceIte, Bool.true_or, Bool.false_or, gt_iff_lt, ge_iff_le, iM1, iM1', iM2, cut_last, cut_last2, slT, fTupL, fTupT, fListL, fInt, fIntB, wipe0, wipe1, tNs, tsNs, inT, isBl, notBl, List.all_cons, List.all_nil, List.any_cons, List.any_nil, flP, eqP, isBlB, notRef, lit_beq, List.append_nil, List.not_mem_nil, isNonB, Int.neg_neg, Int.reduceNegSucc, d_Machine_step, b_Machine_step]
  rw [rd_pile M.ins]
  have ep : h[ap]? = some (.lst []) := by rw [M.pile, hp]; rfl
  refine eq_lists (xs := []) (ys := []) (lst_got (get_app ep)) lstOf_new rfl rfl rfl rfl ?_
  rw [if_pos (by rfl)]
  exact q
end
end Py

set_option Elab.async false
set_option linter.all false
set_option maxRecDepth 100000
set_option maxHeartbeats 4000000
/-! Law 63: runs of the machine, row by row (no program in sight). -/
namespace Py
open PySem
abbrev Th (i : Int) : PV := .tup [.str "thing", .int i]
/-- a value of a frame -/
def okW (v : PV) : Prop := Rp 1 60 v
theorem ok_int {i : Int} (h : i.natAbs < 1000000000) : okW (.int i) := (Rp.int (by omega)).mono (by omega) (by omega)
theorem ok_bl {i : Bool} : okW (.bl i) := Rp.bl.mono (by omega) (by omega)
theorem ok_non : okW .non := Rp.non.mono (by omega) (by omega)
theorem ok_thing {i : Int} (h : i.natAbs < 1000000000) : okW (Th i) := by
  refine (Rp.tup (n := 0) (c := 21) (m := 2) (fun x hx => ?_) (by simp)).mono (by omega) (by omega)
  rcases List.mem_cons.mp hx with rfl | hx
  · exact (Rp.lit (c := 20) (by decide +kernel)).mono (by omega) (by omega)
  · rw [List.mem_singleton.mp hx]; exact Rp.int (by omega)
theorem ok_nil : ∀ v ∈ ([] : List PV), okW v := fun v hv => by cases hv
theorem ok_one {x : PV} (h : okW x) : ∀ v ∈ [x], okW v := fun v hv => by rw [List.mem_singleton.mp hv]; exact h
/-- a frame of plain values -/
structure okFr (f : Fr) : Prop where
  sl : ∀ v ∈ f.sl, okW v
  st : ∀ v ∈ f.st, okW v
  b : f.b.natAbs ≤ 1000
  a : f.a.natAbs ≤ 1000
  lsl : f.sl.length ≤ 10
  lst : f.st.length ≤ 10
theorem okFr.rp {f : Fr} (h : okFr f) : Rp 3 2600 f.v := by
  have r1 := Rp.tup (m := 10) h.sl h.lsl
  have r2 := Rp.tup (m := 10) h.st h.lst
  refine (Rp.tup (n := 2) (c := 640) (m := 4) (fun x hx => ?_) (by simp)).mono (by omega) (by omega)
  rcases List.mem_cons.mp hx with rfl | hx
  · exact (Rp.int (by have := h.b; omega)).mono (by omega) (by omega)
  rcases List.mem_cons.mp hx with rfl | hx
  · exact (Rp.int (by have := h.a; omega)).mono (by omega) (by omega)
  rcases List.mem_cons.mp hx with rfl | hx
  · exact r1.mono (by omega) (by omega)
  · rw [List.mem_singleton.mp hx]; exact r2.mono (by omega) (by omega)
theorem okFr.f {f : Fr} (h : okFr f) : okF f := ⟨h.rp.fl, h.rp.lay, by have := h.rp.dep; omega⟩
/-- the things are plain -/
structure okMd (made : List PV) : Prop where
  rp : ∀ v ∈ made, Rp 3 400 v
  len : made.length ≤ 10
theorem ok_made {v : PV} {house : Int} (h : house.natAbs ≤ 1000) (hv : okW v) : Rp 3 400 (.tup [.int house, .tup [v]]) := by
  have r1 : Rp 2 65 (.tup [v]) := Rp.tup (m := 1) (ok_one hv) (by simp)
  refine (Rp.tup (n := 2) (c := 65) (m := 2) (fun x hx => ?_) (by simp)).mono (by omega) (by omega)
  rcases List.mem_cons.mp hx with rfl | hx
  · exact (Rp.int (by omega)).mono (by omega) (by omega)
  · rw [List.mem_singleton.mp hx]; exact r1
/-- m rows -/
inductive Runs (C : Cf) : Nat → St → St → Prop
  | nil {s s' : St} : s = s' → Runs C 0 s s'
  | cons {m : Nat} {s s1 s' : St} {fs : List Fr} {f : Fr} : s.pile = fs ++ [f] → s.ended = .non → (∀ g ∈ s.pile, okFr g) → s.pile.length < 60 → okMd s.made → Stp C s fs f s1 → Runs C m s1 s' → Runs C (m + 1) s s'
theorem Runs.trans {C : Cf} {a b : Nat} {s s1 s2 : St} (x : Runs C a s s1) (y : Runs C b s1 s2) : Runs C (a + b) s s2 := by
  induction x with
  | nil e => subst e; rw [Nat.zero_add]; exact y
  | cons h1 h2 h3 h4 h5 h6 _ ih => rw [show ∀ m, m + 1 + b = m + b + 1 by omega]; exact .cons h1 h2 h3 h4 h5 h6 (ih y)
def RowAt (C : Cf) (b a : Int) (row : PV) : Prop := ∃ many size rows, atI C.code b = some (.tup [many, size, .tup rows]) ∧ atI rows a = some row
/-! ### sites and houses that are remembered -/
def memS (p : (Int → List Int) × Nat) (e : Int × Int) : (Int → List Int) × Nat :=
  (fun y => if y = e.1 then (e.2 :: (p.1 e.1).filter fun z => !decide (z = e.2)).take 2 else p.1 y, if e.2 ∈ p.1 e.1 then p.2 + 1 else p.2)
def mem (ss : List (Int × Int)) : (Int → List Int) × Nat := ss.foldl memS (fun _ => [], 0)
theorem mem_snoc {ss : List (Int × Int)} {e : Int × Int} : mem (ss ++ [e]) = memS (mem ss) e := by
  unfold mem; rw [List.foldl_append]; rfl
def okM (l : List Int) : Prop := l = [] ∨ (∃ x, l = [x]) ∨ ∃ x y : Int, l = [x, y] ∧ x ≠ y
theorem okM_next {l : List Int} {a : Int} (h : okM l) : okM ((a :: l.filter fun z => !decide (z = a)).take 2) := by
  rcases h with rfl | ⟨x, rfl⟩ | ⟨x, y, rfl, n⟩
  · exact .inr (.inl ⟨a, rfl⟩)
  · by_cases e : x = a
    · exact .inr (.inl ⟨a, by simp [e]⟩)
    · exact .inr (.inr ⟨a, x, by simp [e], fun z => e z.symm⟩)
  · by_cases e : x = a
    · have : ¬ y = a := fun z => n (by rw [e, z])
      exact .inr (.inr ⟨a, y, by simp [e, this], fun z => this z.symm⟩)
    · by_cases e2 : y = a
      · exact .inr (.inr ⟨a, x, by simp [e, e2], fun z => e z.symm⟩)
      · exact .inr (.inr ⟨a, x, by simp [e, e2], fun z => e z.symm⟩)
theorem mem_ok (ss : List (Int × Int)) : ∀ x, okM ((mem ss).1 x) := by
  have : ∀ (ss : List (Int × Int)) (p : (Int → List Int) × Nat), (∀ x, okM (p.1 x)) → ∀ x, okM ((ss.foldl memS p).1 x) := by
    intro ss
    induction ss with
    | nil => intro p h; exact h
    | cons e r ih =>
      intro p h
      refine ih _ fun x => ?_
      show okM (if x = e.1 then _ else _)
      split
      · exact okM_next (h _)
      · exact h x
  exact this ss _ fun _ => .inl rfl
/-- remembered with their blocks -/
def wb (f : Int → Int) (l : List Int) : List (Int × Int) := l.map fun a => (a, f a)
theorem wb_ok {f : Int → Int} {l : List Int} (h : okM l) : okR (wb f l) := by
  rcases h with rfl | ⟨x, rfl⟩ | ⟨x, y, rfl, n⟩
  · exact .inl rfl
  · exact .inr (.inl ⟨_, rfl⟩)
  · exact .inr (.inr ⟨_, _, rfl, n⟩)
theorem wb_in {f : Int → Int} {l : List Int} {a : Int} (h : okM l) (ha : a ∈ l) : found a (wb f l) = .int (f a) ∧ front a (wb f l) = wb f ((a :: l.filter fun z => !decide (z = a)).take 2) := by
  rcases h with rfl | ⟨x, rfl⟩ | ⟨x, y, rfl, n⟩
  · simp at ha
  · have : a = x := by simpa using ha
    subst this
    constructor <;> simp [found, front, wb]
  · by_cases e : x = a
    · subst e
      have n' : ¬ y = x := fun z => n z.symm
      constructor <;> simp [found, front, wb, n']
    · have e2 : y = a := by
        have : a = x ∨ a = y := by simpa using ha
        rcases this with z | z
        · exact absurd z.symm e
        · exact z.symm
      subst e2
      constructor <;> simp [found, front, wb, e]
theorem wb_out {f : Int → Int} {l : List Int} {a : Int} (ha : a ∉ l) : found a (wb f l) = .non ∧ ((a, f a) :: front a (wb f l)).take 2 = wb f ((a :: l.filter fun z => !decide (z = a)).take 2) := by
  have e1 : ∀ m : List Int, a ∉ m → (wb f m).filter (fun p => decide (p.1 = a)) = [] ∧ (wb f m).filter (fun p => !decide (p.1 = a)) = wb f m ∧ m.filter (fun z => !decide (z = a)) = m ∧ (wb f m).find? (fun p => decide (p.1 = a)) = none := by
    intro m
    induction m with
    | nil => intro _; exact ⟨rfl, rfl, rfl, rfl⟩
    | cons x r ih =>
      intro hm
      have hx : ¬ x = a := fun z => hm (by rw [z]; exact List.mem_cons_self ..)
      obtain ⟨p1, p2, p3, p4⟩ := ih fun z => hm (List.mem_cons_of_mem _ z)
      unfold wb at p1 p2 p4 ⊢
      refine ⟨?_, ?_, ?_, ?_⟩ <;> simp [hx, p1, p2, p3, p4] <;> assumption
  obtain ⟨p1, p2, p3, p4⟩ := e1 l ha
  constructor
  · unfold found; rw [p4]
  · unfold front
    rw [p1, p2, p3, List.nil_append]
    unfold wb
    rw [List.map_take]; rfl
/-! ### as it stands -/
structure Vw (bl : Int → Int → Int) (s : St) (pile : List Fr) (made : List PV) (cnt : Nat) (ended : PV) (sites : List (Int × Int)) : Prop where
  pile : s.pile = pile
  made : s.made = made
  cnt : s.counted = cnt
  sought : s.sought = (sites.length : Int) - (mem sites).2
  met : s.met = (mem sites).2
  pairs : s.pairs = fun x => wb (bl x) ((mem sites).1 x)
  ended : s.ended = ended
theorem Vw.look {C : Cf} {bl : Int → Int → Int} {s : St} {pile : List Fr} {made : List PV} {cnt : Nat} {ended : PV} {sites : List (Int × Int)} {x w hs : Int} (V : Vw bl s pile made cnt ended sites) (hk : C.keeps = true) (t : TabIs C hs w (bl x hs)) :
    ∃ s1, LookR C s x w hs s1 (bl x hs) ∧ Vw bl s1 pile made cnt ended (sites ++ [(x, hs)]) := by
  have hp : s.pairs x = wb (bl x) ((mem sites).1 x) := by rw [V.pairs]
  have hps : ∀ row, row = wb (bl x) ((hs :: ((mem sites).1 x).filter fun z => !decide (z = hs)).take 2) → setP s.pairs x row = fun y => wb (bl y) ((mem (sites ++ [(x, hs)])).1 y) := fun row e => by
    funext y
    rw [mem_snoc]
    show (if y = x then row else s.pairs y) = wb (bl y) (if y = x then _ else _)
    by_cases h : y = x
    · subst h; rw [if_pos rfl, if_pos rfl, e]
    · rw [if_neg h, if_neg h, V.pairs]
  by_cases h : hs ∈ (mem sites).1 x
  · obtain ⟨e1, e2⟩ := wb_in (f := bl x) (mem_ok sites x) h
    have e3 : (mem (sites ++ [(x, hs)])).2 = (mem sites).2 + 1 := by rw [mem_snoc]; show (if hs ∈ (mem sites).1 x then _ else _) = _; rw [if_pos h]
    refine ⟨_, .hit hk (by rw [hp]; exact e1), ⟨V.pile, V.made, V.cnt, ?_, ?_, ?_, V.ended⟩⟩
    · show s.sought = _
      rw [V.sought, e3, List.length_append]; simp; omega
    · show s.met + 1 = _
      rw [V.met, e3]; rfl
    · exact hps _ (by rw [hp]; exact e2)
  · obtain ⟨e1, e2⟩ := wb_out (f := bl x) h
    have e3 : (mem (sites ++ [(x, hs)])).2 = (mem sites).2 := by rw [mem_snoc]; show (if hs ∈ (mem sites).1 x then _ else _) = _; rw [if_neg h]
    refine ⟨_, .miss hk (by rw [hp]; exact e1) t, ⟨V.pile, V.made, V.cnt, ?_, ?_, ?_, V.ended⟩⟩
    · show s.sought + 1 = _
      rw [V.sought, e3, List.length_append]; simp; omega
    · show s.met = _
      rw [V.met, e3]
    · exact hps _ (by rw [hp]; exact e2)
end Py

set_option Elab.async false
set_option linter.all false
set_option maxRecDepth 100000
set_option maxHeartbeats 4000000
/-! Law 63: what is reached, row by row. -/
namespace Py
open PySem
/-- reached by k rows at most -/
def Rch (C : Cf) (bl : Int → Int → Int) (k : Nat) (s : St) (pile : List Fr) (made : List PV) (cnt : Nat) (ended : PV) (sites : List (Int × Int)) : Prop :=
  ∃ m s', m ≤ k ∧ Runs C m s s' ∧ Vw bl s' pile made cnt ended sites ∧ (∀ g ∈ pile, okFr g) ∧ okMd made
section
variable {C : Cf} {bl : Int → Int → Int} {k : Nat} {s : St} {fs : List Fr} {made : List PV} {cnt : Nat} {sites : List (Int × Int)} {b a : Int} {sl st : List PV}
theorem Rch.more {k' : Nat} {pile : List Fr} {ended : PV} (R : Rch C bl k s pile made cnt ended sites) (h : k ≤ k') : Rch C bl k' s pile made cnt ended sites := by
  obtain ⟨m, s', a, r⟩ := R
  exact ⟨m, s', Nat.le_trans a h, r⟩
theorem Rch.okl (R : Rch C bl k s (fs ++ [⟨b, a, sl, st⟩]) made cnt .non sites) : (∀ v ∈ sl, okW v) ∧ ∀ v ∈ st, okW v := by
  obtain ⟨m, s', _, _, _, o, _⟩ := R
  have := o ⟨b, a, sl, st⟩ (by simp)
  exact ⟨this.sl, this.st⟩
theorem Rch.okt (R : Rch C bl k s (fs ++ [⟨b, a, sl, st⟩]) made cnt .non sites) : okFr ⟨b, a, sl, st⟩ := by
  obtain ⟨m, s', _, _, _, o, _⟩ := R
  exact o ⟨b, a, sl, st⟩ (by simp)
theorem Rch.okm {pile : List Fr} {ended : PV} (R : Rch C bl k s pile made cnt ended sites) : okMd made := by
  obtain ⟨m, s', _, _, _, _, o⟩ := R
  exact o
theorem Rch.okfs {pile : List Fr} {ended : PV} (R : Rch C bl k s pile made cnt ended sites) : ∀ g ∈ pile, okFr g := by
  obtain ⟨m, s', _, _, _, o, _⟩ := R
  exact o
theorem Rch.own {w : String} {args sl' st' : List PV} {a' : Int} (R : Rch C bl k s (fs ++ [⟨b, a, sl, st⟩]) made cnt .non sites) (hl : fs.length < 55) (r : RowAt C b a (.tup (.str (Str.ofString w) :: args))) (hw : w ∉ ["back", "call", "straight", "make", "put"])
    (o : Own (.tup (.str (Str.ofString w) :: args)) (frV b a sl st) made (frV b a' sl' st') .non) (h1 : ∀ v ∈ sl', okW v) (h2 : ∀ v ∈ st', okW v) (hb : a'.natAbs ≤ 1000) (z1 : sl'.length ≤ 10) (z2 : st'.length ≤ 10) : Rch C bl (k + 1) s (fs ++ [⟨b, a', sl', st'⟩]) made cnt .non sites := by
  have ot := R.okt
  obtain ⟨m, s', hm, R, V, ok, om⟩ := R
  have ok' : ∀ g ∈ fs ++ [⟨b, a', sl', st'⟩], okFr g := fun g hg => by
    rcases List.mem_append.mp hg with hg | hg
    · exact ok g (List.mem_append_left _ hg)
    · rw [List.mem_singleton.mp hg]; exact ⟨h1, h2, ot.b, hb, z1, z2⟩
  refine ⟨m + 1, { g1 s' with pile := fs ++ [⟨b, a', sl', st'⟩] }, by omega, R.trans (.cons V.pile V.ended (fun g hg => ok g (by rw [← V.pile]; exact hg)) (by rw [V.pile]; simp; omega) (by rw [V.made]; exact om) (.own (f' := ⟨b, a', sl', st'⟩) r hw (by rw [V.made]; exact o)) (.nil rfl)), ⟨rfl, V.made, V.cnt, V.sought, V.met, V.pairs, V.ended⟩, ok', om⟩
theorem ok_snoc {x : PV} (h : ∀ v ∈ st, okW v) (hx : okW x) : ∀ v ∈ st ++ [x], okW v := fun v hv => by
  rcases List.mem_append.mp hv with hv | hv
  · exact h v hv
  · rw [List.mem_singleton.mp hv]; exact hx
theorem atI_mem {α : Type} {xs : List α} {j : Int} {v : α} (e : atI xs j = some v) : v ∈ xs := by
  unfold atI at e
  cases q : ixN xs.length j with
  | none => rw [q] at e; cases e
  | some i =>
    rw [q] at e
    exact List.mem_of_getElem? e
theorem Rch.load {j : Int} {v : PV} (a' : Int) (ha : a + 1 = a') (R : Rch C bl k s (fs ++ [⟨b, a, sl, st⟩]) made cnt .non sites) (hl : fs.length < 55) (r : RowAt C b a (.tup [.str "load", .int j])) (hz : st.length ≤ 9) (e : atI sl j = some v) (hb : a'.natAbs ≤ 1000 := by decide) :
    Rch C bl (k + 1) s (fs ++ [⟨b, a', sl, st ++ [v]⟩]) made cnt .non sites := by
  subst ha
  exact R.own hl r (by decide) (own_load (by omega) e) R.okl.1 (ok_snoc R.okl.2 (R.okl.1 v (atI_mem e))) hb R.okt.lsl (by simp; omega)
theorem Rch.push {v : PV} (a' : Int) (ha : a + 1 = a') (R : Rch C bl k s (fs ++ [⟨b, a, sl, st⟩]) made cnt .non sites) (hl : fs.length < 55) (r : RowAt C b a (.tup [.str "push", v])) (hz : st.length ≤ 9) (ov : okW v) (hb : a'.natAbs ≤ 1000 := by decide) :
    Rch C bl (k + 1) s (fs ++ [⟨b, a', sl, st ++ [v]⟩]) made cnt .non sites := by
  subst ha
  exact R.own hl r (by decide) (own_push (by omega)) R.okl.1 (ok_snoc R.okl.2 ov) hb R.okt.lsl (by simp; omega)
theorem Rch.same {i j : Int} (a' : Int) (ha : a + 1 = a') (R : Rch C bl k s (fs ++ [⟨b, a, sl, [.int i, .int j]⟩]) made cnt .non sites) (hl : fs.length < 55) (r : RowAt C b a (.tup [.str "same"])) (hb : a'.natAbs ≤ 1000 := by decide) :
    Rch C bl (k + 1) s (fs ++ [⟨b, a', sl, [.bl (decide (i = j))]⟩]) made cnt .non sites := by
  subst ha
  have o := own_same (n := b) (a := a) (sl := sl) (st := []) (ths := made) (x := .int i) (y := .int j) (by simp) rfl rfl
  have e : PyData.eqv (dat (.int i)) (dat (.int j)) = decide (i = j) := bqd
  rw [e] at o
  exact R.own hl r (by decide) o R.okl.1 (ok_one ok_bl) hb R.okt.lsl (by simp)
theorem Rch.unless {c : Bool} {t : Int} (a' : Int) (ha : (if c = true then a + 1 else a + 1 + t) = a') (R : Rch C bl k s (fs ++ [⟨b, a, sl, [.bl c]⟩]) made cnt .non sites) (hl : fs.length < 55) (r : RowAt C b a (.tup [.str "unless", .int t])) (hb : a'.natAbs ≤ 1000 := by decide) :
    Rch C bl (k + 1) s (fs ++ [⟨b, a', sl, []⟩]) made cnt .non sites := by
  subst ha
  exact R.own hl r (by decide) (own_unless (st := [])) R.okl.1 ok_nil hb R.okt.lsl (by simp)
theorem Rch.keep {x : PV} {j : Nat} (a' : Int) (ha : a + 1 = a') (R : Rch C bl k s (fs ++ [⟨b, a, sl, [x]⟩]) made cnt .non sites) (hl : fs.length < 55) (r : RowAt C b a (.tup [.str "keep", .int j])) (hz : sl.length ≤ 1000) (hj : j < sl.length) (hb : a'.natAbs ≤ 1000 := by decide) :
    Rch C bl (k + 1) s (fs ++ [⟨b, a', sl.set j x, []⟩]) made cnt .non sites := by
  subst ha
  refine R.own hl r (by decide) (own_keep (st := []) hz hj) (fun v hv => ?_) ok_nil hb (by rw [List.length_set]; exact R.okt.lsl) (by simp)
  rcases List.mem_or_eq_of_mem_set hv with h | h
  · exact R.okl.1 v h
  · subst h; exact R.okl.2 v (by simp)
theorem Rch.get {v c : PV} {i j : Int} {xs : List PV} (a' : Int) (ha : a + 1 = a') (R : Rch C bl k s (fs ++ [⟨b, a, sl, st ++ [Th i]⟩]) made cnt .non sites) (hl : fs.length < 55) (r : RowAt C b a (.tup [.str "get", .int j])) (hz : st.length ≤ 1000) (ei : atI made i = some (.tup [c, .tup xs])) (ej : atI xs j = some v) (ov : okW v) (hb : a'.natAbs ≤ 1000 := by decide) :
    Rch C bl (k + 1) s (fs ++ [⟨b, a', sl, st ++ [v]⟩]) made cnt .non sites := by
  subst ha
  exact R.own hl r (by decide) (own_get hz ei ej) R.okl.1 (ok_snoc (fun v hv => R.okl.2 v (List.mem_append_left _ hv)) ov) hb R.okt.lsl (by have := R.okt.lst; simp at this ⊢; omega)
theorem Rch.two {w : String} {x y z : Int} (a' : Int) (ha : a + 1 = a') (R : Rch C bl k s (fs ++ [⟨b, a, sl, st ++ [.int x, .int y]⟩]) made cnt .non sites) (hl : fs.length < 55) (r : RowAt C b a (.tup [.str (Str.ofString w)])) (hz : st.length ≤ 1000) (hw : isTwo w) (hx : fit x) (hy : fit y) (e : twoV w x y = .tup [.str "value", .int z]) (nw : w ∉ ["back", "call", "straight", "make", "put"]) (zb : z.natAbs < 1000000000) (hb : a'.natAbs ≤ 1000) :
    Rch C bl (k + 1) s (fs ++ [⟨b, a', sl, st ++ [.int z]⟩]) made cnt .non sites := by
  subst ha
  exact R.own hl r nw (own_two hz hw hx hy e) R.okl.1 (ok_snoc (fun v hv => R.okl.2 v (List.mem_append_left _ hv)) (ok_int zb)) hb R.okt.lsl (by have := R.okt.lst; simp at this ⊢; omega)
theorem two_add {x y : Int} (hx : -1000000 ≤ x ∧ x ≤ 1000000) (hy : -1000000 ≤ y ∧ y ≤ 1000000) : twoV "add" x y = .tup [.str "value", .int (x + y)] := by
  show wthn (x + y) = _
  unfold wthn
  rw [if_neg (by omega), if_neg (by omega)]
theorem two_sub {x y : Int} (hx : -1000000 ≤ x ∧ x ≤ 1000000) (hy : -1000000 ≤ y ∧ y ≤ 1000000) : twoV "sub" x y = .tup [.str "value", .int (x - y)] := by
  show wthn (x - y) = _
  unfold wthn
  rw [if_neg (by omega), if_neg (by omega)]
theorem Rch.add {x y : Int} (a' : Int) (ha : a + 1 = a') (R : Rch C bl k s (fs ++ [⟨b, a, sl, st ++ [.int x, .int y]⟩]) made cnt .non sites) (hl : fs.length < 55) (r : RowAt C b a (.tup [.str "add"])) (hz : st.length ≤ 1000) (hx : -1000000 ≤ x ∧ x ≤ 1000000) (hy : -1000000 ≤ y ∧ y ≤ 1000000) (hb : a'.natAbs ≤ 1000 := by decide) :
    Rch C bl (k + 1) s (fs ++ [⟨b, a', sl, st ++ [.int (x + y)]⟩]) made cnt .non sites :=
  R.two a' ha hl r hz (by unfold isTwo; simp) (by unfold fit; omega) (by unfold fit; omega) (two_add hx hy) (by decide) (by omega) hb
theorem Rch.sub {x y : Int} (a' : Int) (ha : a + 1 = a') (R : Rch C bl k s (fs ++ [⟨b, a, sl, st ++ [.int x, .int y]⟩]) made cnt .non sites) (hl : fs.length < 55) (r : RowAt C b a (.tup [.str "sub"])) (hz : st.length ≤ 1000) (hx : -1000000 ≤ x ∧ x ≤ 1000000) (hy : -1000000 ≤ y ∧ y ≤ 1000000) (hb : a'.natAbs ≤ 1000 := by decide) :
    Rch C bl (k + 1) s (fs ++ [⟨b, a', sl, st ++ [.int (x - y)]⟩]) made cnt .non sites :=
  R.two a' ha hl r hz (by unfold isTwo; simp) (by unfold fit; omega) (by unfold fit; omega) (two_sub hx hy) (by decide) (by omega) hb
theorem Rch.step {pile' : List Fr} {made' : List PV} {cnt' : Nat} {ended' : PV} {sites' : List (Int × Int)} {f : Fr} (R : Rch C bl k s (fs ++ [f]) made cnt .non sites) (hl : fs.length < 55)
    (T : ∀ u, Vw bl u (fs ++ [f]) made cnt .non sites → ∃ u', Stp C u fs f u' ∧ Vw bl u' pile' made' cnt' ended' sites') (ok : ∀ g ∈ pile', okFr g) (okm : okMd made') : Rch C bl (k + 1) s pile' made' cnt' ended' sites' := by
  obtain ⟨m, u, hm, R, V, o, om⟩ := R
  obtain ⟨u', S, V'⟩ := T u V
  exact ⟨m + 1, u', by omega, R.trans (.cons V.pile V.ended (fun g hg => o g (by rw [← V.pile]; exact hg)) (by rw [V.pile]; simp; omega) (by rw [V.made]; exact om) S (.nil rfl)), V', ok, okm⟩
theorem ok_top {g f : Fr} (h : ∀ g ∈ fs ++ [f], okFr g) (hg : okFr g) : ∀ x ∈ fs ++ [g], okFr x := fun x hx => by
  rcases List.mem_append.mp hx with hx | hx
  · exact h x (List.mem_append_left _ hx)
  · rw [List.mem_singleton.mp hx]; exact hg
/-- a thing of one field made -/
theorem Rch.make {v : PV} {house : Int} (a' : Int) (ha : a + 1 = a') (R : Rch C bl k s (fs ++ [⟨b, a, sl, st ++ [v]⟩]) made cnt .non sites) (hl : fs.length < 55) (r : RowAt C b a (.tup [.str "make", .int house, .int 1])) (hz : st.length < 900) (hm : made.length < 10) (hh : house.natAbs ≤ 1000) (hb : a'.natAbs ≤ 1000 := by decide) :
    Rch C bl (k + 1) s (fs ++ [⟨b, a', sl, st ++ [Th made.length]⟩]) (made ++ [.tup [.int house, .tup [v]]]) cnt .non sites := by
  subst ha
  refine R.step hl (fun u V => ⟨_, .make (rest := st) (vals := [v]) r rfl (by rw [V.made]; omega) (by simp; omega), ⟨?_, ?_, V.cnt, V.sought, V.met, V.pairs, V.ended⟩⟩) (ok_top R.okfs ⟨R.okl.1, ok_snoc (fun v hv => R.okl.2 v (List.mem_append_left _ hv)) (ok_thing (by omega)), R.okt.b, hb, R.okt.lsl, by have := R.okt.lst; simp at this ⊢; omega⟩) ⟨fun x hx => ?_, by simp; omega⟩
  · show fs ++ [(⟨b, a + 1, sl, st ++ [.tup [.str "thing", .int (u.made.length : Nat)]]⟩ : Fr)] = _
    rw [V.made]
  · show u.made ++ _ = _
    rw [V.made]
  · rcases List.mem_append.mp hx with hx | hx
    · exact R.okm.rp x hx
    · rw [List.mem_singleton.mp hx]; exact ok_made hh (R.okl.2 v (by simp))
/-- a field set -/
theorem Rch.put {v w : PV} {i c : Int} {m : Nat} (a' : Int) (ha : a + 1 = a') (R : Rch C bl k s (fs ++ [⟨b, a, sl, [Th i, v]⟩]) made cnt .non sites) (hl : fs.length < 55) (r : RowAt C b a (.tup [.str "put", .int 0])) (hi : ixN made.length i = some m) (hm : made[m]? = some (.tup [.int c, .tup [w]])) (hc : c.natAbs ≤ 1000) (hb : a'.natAbs ≤ 1000 := by decide) :
    Rch C bl (k + 1) s (fs ++ [⟨b, a', sl, [v]⟩]) (made.set m (.tup [.int c, .tup [v]])) cnt .non sites := by
  subst ha
  refine R.step hl (fun u V => ⟨_, .put (j := 0) (rest := []) (vs := [w]) r rfl (by rw [V.made]; exact hi) (by rw [V.made]; exact hm) (by simp) (by simp) (by simp), ⟨rfl, ?_, V.cnt, V.sought, V.met, V.pairs, V.ended⟩⟩) (ok_top R.okfs ⟨R.okl.1, fun x hx => R.okl.2 x (by simp at hx ⊢; exact .inr hx), R.okt.b, hb, R.okt.lsl, by simp⟩) ⟨fun x hx => ?_, by rw [List.length_set]; exact R.okm.len⟩
  · show u.made.set m _ = _
    rw [V.made]; rfl
  · rcases List.mem_or_eq_of_mem_set hx with hx | hx
    · exact R.okm.rp x hx
    · subst hx; exact ok_made hc (R.okl.2 v (by simp))
/-- back to the frame below -/
theorem Rch.back {g : Fr} {v : PV} (R : Rch C bl k s (fs ++ [g] ++ [⟨b, a, sl, [v]⟩]) made cnt .non sites) (hl : fs.length < 54) (r : RowAt C b a (.tup [.str "back"])) (hg : g.st.length < 9) :
    Rch C bl (k + 1) s (fs ++ [⟨g.b, g.a, g.sl, g.st ++ [v]⟩]) made cnt .non sites := by
  refine R.step (by simp; omega) (fun u V => ⟨_, .back (st := []) r rfl (.on (gs := fs) (g := g) rfl (by omega)), ⟨rfl, V.made, V.cnt, V.sought, V.met, V.pairs, V.ended⟩⟩) (fun x hx => ?_) R.okm
  rcases List.mem_append.mp hx with hx | hx
  · exact R.okfs x (by simp [hx])
  · rw [List.mem_singleton.mp hx]
    have := R.okfs g (by simp)
    exact ⟨this.sl, ok_snoc this.st (R.okl.2 v (by simp)), this.b, this.a, this.lsl, by simp; omega⟩
/-- the end, a number -/
theorem Rch.value {i : Int} (R : Rch C bl k s [⟨b, a, sl, [.int i]⟩] made cnt .non sites) (r : RowAt C b a (.tup [.str "back"])) : Rch C bl (k + 1) s [] made cnt (.tup [.str "value", .int i]) sites :=
  Rch.step (fs := []) R (by simp) (fun u V => ⟨_, .back (st := []) r rfl (.value rfl (.inl ⟨i, rfl⟩)), ⟨rfl, V.made, V.cnt, V.sought, V.met, V.pairs, rfl⟩⟩) (by simp) R.okm
/-- a call -/
theorem Rch.call {vals rr : List PV} {site word i hs size : Int} {many rw : PV} {n : Nat} (a' : Int) (ha : a + 1 = a') (hk : C.keeps = true) (R : Rch C bl k s (fs ++ [⟨b, a, sl, Th i :: vals⟩]) made cnt .non sites) (hl : fs.length < 54) (hn : n = vals.length + 1) (r : RowAt C b a (.tup [.str "call", .int site, .int word, .int n])) (hz : vals.length < 100)
    (hi : atI made i = some (.tup (.int hs :: rr))) (t : TabIs C hs word (bl site hs)) (blk : atI C.code (bl site hs) = some (.tup [many, .int size, rw])) (z0 : (n : Int) ≤ size) (z1 : size ≤ 10) (hbb : (bl site hs).natAbs ≤ 1000) (hb : a'.natAbs ≤ 1000 := by decide) :
    ((cnt : Int) = C.bound ∧ Rch C bl (k + 1) s [] made cnt (.tup [.str "dry"]) (sites ++ [(site, hs)])) ∨
    ((cnt : Int) ≠ C.bound ∧ 40 < fs.length + 1 ∧ Rch C bl (k + 1) s [] made (cnt + 1) (.tup [.str "deep"]) (sites ++ [(site, hs)])) ∨
    ((cnt : Int) ≠ C.bound ∧ fs.length + 1 ≤ 40 ∧ Rch C bl (k + 1) s (fs ++ [⟨b, a', sl, []⟩] ++ [⟨bl site hs, 0, Th i :: vals ++ List.replicate (size - n).toNat .non, []⟩]) made (cnt + 1) .non (sites ++ [(site, hs)])) := by
  subst ha hn
  have go : ∀ (pile' : List Fr) (cnt' : Nat) (ended' : PV), (∀ g ∈ pile', okFr g) → (∀ u1, Vw bl u1 (fs ++ [⟨b, a, sl, Th i :: vals⟩]) made cnt .non (sites ++ [(site, hs)]) → ∃ u', EnterR C u1 fs b a sl [] (Th i :: vals) (bl site hs) u' ∧ Vw bl u' pile' made cnt' ended' (sites ++ [(site, hs)])) → Rch C bl (k + 1) s pile' made cnt' ended' (sites ++ [(site, hs)]) := by
    intro pile' cnt' ended' ok E
    refine R.step (by omega) (fun u V => ?_) ok R.okm
    have V1 : Vw bl (g1 u) (fs ++ [⟨b, a, sl, Th i :: vals⟩]) made cnt .non sites := ⟨V.pile, V.made, V.cnt, V.sought, V.met, V.pairs, V.ended⟩
    obtain ⟨u1, L, V2⟩ := V1.look hk t
    obtain ⟨u', E', V3⟩ := E u1 V2
    exact ⟨u', .call (rest := []) (i := i) r rfl (by simp; omega) (by rw [V.made]; exact hi) (fun x => by rw [V.pairs]; exact wb_ok (mem_ok sites x)) L E', V3⟩
  by_cases h1 : (cnt : Int) = C.bound
  · exact .inl ⟨h1, go _ _ _ (by simp) fun u1 V => ⟨_, .dry (by rw [V.cnt]; exact h1), ⟨rfl, V.made, V.cnt, V.sought, V.met, V.pairs, rfl⟩⟩⟩
  · by_cases h2 : fs.length + 1 ≤ 40
    · refine .inr (.inr ⟨h1, h2, go _ _ _ (fun x hx => ?_) fun u1 V => ⟨_, .go (by rw [V.cnt]; exact h1) (by rw [V.pile]; simp; omega) blk (by simp; omega) (by simp; omega) (by simp; omega), ⟨?_, V.made, by show u1.counted + 1 = _; rw [V.cnt]; rfl, V.sought, V.met, V.pairs, V.ended⟩⟩⟩)
      · rcases List.mem_append.mp hx with hx | hx
        · exact ok_top (g := ⟨b, a + 1, sl, []⟩) R.okfs ⟨R.okl.1, ok_nil, R.okt.b, hb, R.okt.lsl, by simp⟩ x hx
        · rw [List.mem_singleton.mp hx]
          refine ⟨fun v hv => ?_, ok_nil, hbb, by show (0 : Int).natAbs ≤ 1000; decide, by simp; omega, by simp⟩
          rcases List.mem_append.mp hv with hv | hv
          · exact R.okl.2 v hv
          · rw [(List.mem_replicate.mp hv).2]; exact ok_non
      · show fs ++ [(⟨b, a + 1, sl, []⟩ : Fr), _] = _
        rw [List.append_assoc]; rfl
    · exact .inr (.inl ⟨h1, by omega, go _ _ _ (by simp) fun u1 V => ⟨_, .deep (by rw [V.cnt]; exact h1) (by rw [V.pile]; simp; omega), ⟨rfl, V.made, by show u1.counted + 1 = _; rw [V.cnt]; rfl, V.sought, V.met, V.pairs, rfl⟩⟩⟩)
end
end Py

set_option Elab.async false
set_option linter.all false
set_option maxRecDepth 100000
set_option maxHeartbeats 4000000
/-! Law 63: the program that is drawn, and its answer. -/
namespace Py
open PySem
structure Pg where
  W : Nat
  many : Nat
  kd : Nat → Nat
  wh : Nat → Nat
  hm : Nat → Nat
  vl : Nat → Int
  count : Nat
  last : Int
structure Pg.Ok (P : Pg) : Prop where
  w0 : 0 < P.W
  w1 : P.W ≤ 3
  m1 : P.many ≤ 4
  kd : ∀ w, P.kd w < 3
  wh : ∀ z, P.wh z < P.W
  hm : ∀ j, P.hm j < P.many
  vl : ∀ j, -500 ≤ P.vl j ∧ P.vl j ≤ 500
  count : P.count ≤ 45
  last : 0 ≤ P.last ∧ P.last ≤ 49
def tellR : Nat → List PV
  | 0 => [.tup [.str "load", .int 1], .tup [.str "load", .int 0], .tup [.str "get", .int 0], .tup [.str "add"], .tup [.str "back"]]
  | 1 => [.tup [.str "load", .int 1], .tup [.str "load", .int 0], .tup [.str "get", .int 0], .tup [.str "sub"], .tup [.str "back"]]
  | _ => [.tup [.str "load", .int 0], .tup [.str "load", .int 1], .tup [.str "put", .int 0], .tup [.str "load", .int 0], .tup [.str "get", .int 0], .tup [.str "add"], .tup [.str "back"]]
def tellB (d : Nat) : PV := .tup [.int 2, .int 2, .tup (tellR d)]
def goR (last : Int) : List PV := [.tup [.str "load", .int 1], .tup [.str "push", .int 0], .tup [.str "same"], .tup [.str "unless", .int 2], .tup [.str "push", .int last], .tup [.str "back"], .tup [.str "load", .int 2],
  .tup [.str "load", .int 1], .tup [.str "call", .int 0, .int 0, .int 2], .tup [.str "keep", .int 5], .tup [.str "load", .int 0], .tup [.str "load", .int 1], .tup [.str "push", .int 1], .tup [.str "sub"],
  .tup [.str "load", .int 3], .tup [.str "load", .int 4], .tup [.str "load", .int 2], .tup [.str "call", .int 1, .int 1, .int 5], .tup [.str "load", .int 5], .tup [.str "add"], .tup [.str "back"]]
def goB (last : Int) : PV := .tup [.int 5, .int 6, .tup (goR last)]
def Pg.pair (P : Pg) (j : Nat) : List PV := [.tup [.str "push", .int (P.vl j)], .tup [.str "make", .int (P.hm j), .int 1]]
def Pg.mainR (P : Pg) : List PV := [.tup [.str "push", .int (P.vl 0)], .tup [.str "make", .int (P.hm 0), .int 1], .tup [.str "push", .int P.count]] ++ P.pair 1 ++ P.pair 2 ++ P.pair 3 ++ [.tup [.str "call", .int 2, .int 1, .int 5], .tup [.str "back"]]
def Pg.mainB (P : Pg) : PV := .tup [.int 0, .int 0, .tup P.mainR]
def Pg.code (P : Pg) : List PV := (List.range P.W).map (fun w => tellB (P.kd w)) ++ [goB P.last] ++ [P.mainB]
def Pg.tabs (P : Pg) : List (List PV) := (List.range P.many).map fun z => [.int (P.wh z), .int P.W, .non]
def Pg.cf (P : Pg) (most : Int) (keeps : Bool) : Cf := ⟨P.code, P.tabs, most, keeps⟩
def Pg.bl (P : Pg) : Int → Int → Int := fun x hs => if x = 0 then (P.wh hs.toNat : Int) else P.W
section
variable {P : Pg} {most : Int} {keeps : Bool}
theorem code_tell {w : Nat} (h : w < P.W) : atI P.code (w : Int) = some (tellB (P.kd w)) := by
  unfold Pg.code
  rw [atI_nat, List.append_assoc, List.getElem?_append_left (by simpa using h), List.getElem?_map, List.getElem?_range h]; rfl
theorem code_go : atI P.code (P.W : Int) = some (goB P.last) := by
  unfold Pg.code
  rw [atI_nat, List.append_assoc, List.getElem?_append_right (by simp)]; simp
theorem code_main : atI P.code ((P.W : Int) + 1) = some P.mainB := by
  unfold Pg.code
  rw [show (P.W : Int) + 1 = ((P.W + 1 : Nat) : Int) by omega, atI_nat, List.getElem?_append_right (by simp)]; simp
theorem tabW0 {z : Nat} (h : z < P.many) : TabIs (P.cf most keeps) z 0 (P.bl 0 z) := by
  refine ⟨[.int (P.wh z), .int P.W, .non], ?_, ?_⟩
  · show atI P.tabs _ = _
    unfold Pg.tabs
    rw [atI_nat, List.getElem?_map, List.getElem?_range h]; rfl
  · show some (PV.int (P.wh z)) = some (.int (P.bl 0 z))
    unfold Pg.bl
    rw [if_pos rfl, Int.toNat_natCast]
theorem tabW1 {z : Nat} {x : Int} (h : z < P.many) (hx : x ≠ 0) : TabIs (P.cf most keeps) z 1 (P.bl x z) := by
  refine ⟨[.int (P.wh z), .int P.W, .non], ?_, ?_⟩
  · show atI P.tabs _ = _
    unfold Pg.tabs
    rw [atI_nat, List.getElem?_map, List.getElem?_range h]; rfl
  · show some (PV.int P.W) = some (.int (P.bl x z))
    unfold Pg.bl
    rw [if_neg hx]
end
def upd (f : Nat → Int) (a : Nat) (n : Int) : Nat → Int := fun j => if j = a then n else f j
def Pg.md (P : Pg) (f : Nat → Int) : List PV := [.tup [.int (P.hm 0), .tup [.int (f 0)]], .tup [.int (P.hm 1), .tup [.int (f 1)]], .tup [.int (P.hm 2), .tup [.int (f 2)]], .tup [.int (P.hm 3), .tup [.int (f 3)]]]
structure PS where
  f : Nat → Int
  total : Int
  calls : Nat
  a : Nat
  b : Nat
  c : Nat
  sites : List (Int × Int)
def Pg.way (P : Pg) (p : PS) : Nat := P.kd (P.wh (P.hm p.a))
def told (way : Nat) (num x : Int) : Int := match way with
  | 0 => num + x
  | 1 => num - x
  | _ => num + num
def fldN (way : Nat) (num : Int) (f : Nat → Int) (a : Nat) : Nat → Int := match way with
  | 0 => f
  | 1 => f
  | _ => upd f a num
def Pg.nxt (P : Pg) (num : Int) (p : PS) : PS := ⟨fldN (P.way p) num p.f p.a, p.total + told (P.way p) num (p.f p.a), p.calls + 2, p.b, p.c, p.a, p.sites ++ [(0, (P.hm p.a : Int))] ++ [(1, (P.hm 0 : Int))]⟩
def Pg.ans (P : Pg) (most : Int) : Nat → Nat → PS → PV × Nat × List (Int × Int)
  | 0, _, p => (.tup [.str "value", .int p.total], p.calls, p.sites)
  | n + 1, j, p =>
    if (p.calls : Int) = most then (.tup [.str "dry"], p.calls, p.sites ++ [(0, (P.hm p.a : Int))])
    else if j = 39 then (.tup [.str "deep"], p.calls + 1, p.sites ++ [(0, (P.hm p.a : Int))])
    else if ((p.calls + 1 : Nat) : Int) = most then (.tup [.str "dry"], p.calls + 1, p.sites ++ [(0, (P.hm p.a : Int))] ++ [(1, (P.hm 0 : Int))])
    else P.ans most n (j + 1) (P.nxt ((P.count : Int) - j) p)
/-- frames that wait -/
inductive Wt (P : Pg) : List Fr → Int → Prop
  | nil : Wt P [] 0
  | snoc {fs : List Fr} {T t : Int} {sl : List PV} : Wt P fs T → atI sl 5 = some (.int t) → -1000 ≤ t ∧ t ≤ 1000 → Wt P (fs ++ [⟨P.W, 18, sl, []⟩]) (T + t)
section
variable {P : Pg} {most : Int} {k : Nat} {s : St} {made : List PV} {cnt : Nat} {sites : List (Int × Int)}
theorem go_row {i : Int} {row : PV} (e : atI (goR P.last) i = some row) : RowAt (P.cf most true) P.W i row := ⟨_, _, _, code_go, e⟩
theorem main_row {i : Int} {row : PV} (e : atI P.mainR i = some row) : RowAt (P.cf most true) ((P.W : Int) + 1) i row := ⟨_, _, _, code_main, e⟩
def mw (P : Pg) : Fr := ⟨(P.W : Int) + 1, 10, [], []⟩
theorem run_up {ws : List Fr} {T : Int} (w : Wt P ws T) : ∀ {k : Nat} {v : Int} {a : Int} {sl : List PV}, ws.length ≤ 40 → -100000 + 1000 * (ws.length : Int) ≤ v → v + 1000 * (ws.length : Int) ≤ 100000 → RowAt (P.cf most true) P.W a (.tup [.str "back"]) →
    Rch (P.cf most true) P.bl k s ([mw P] ++ ws ++ [⟨P.W, a, sl, [.int v]⟩]) made cnt .non sites → Rch (P.cf most true) P.bl (k + 2 + 3 * ws.length) s [] made cnt (.tup [.str "value", .int (v + T)]) sites := by
  induction w with
  | nil =>
    intro k v a sl hl h1 h2 r R
    have R1 := Rch.back (fs := []) (g := mw P) R (by simp) r (by simp [mw])
    rw [Int.add_zero]
    exact R1.value (main_row rfl)
  | @snoc fs T t sl' w e ht ih =>
    intro k v a sl hl h1 h2 r R
    simp only [List.length_append, List.length_cons, List.length_nil] at hl h1 h2 ⊢
    rw [← List.append_assoc] at R
    have hlen : ([mw P] ++ fs).length < 54 := by simp; omega
    have R1 := Rch.back (fs := [mw P] ++ fs) R hlen r (by simp)
    have R2 := Rch.load (st := [.int v]) 19 rfl R1 (by omega) (go_row rfl) (by simp) e
    have R3 := Rch.add (st := []) 20 rfl R2 (by omega) (go_row rfl) (by simp) (by omega) (by omega)
    have R4 := ih (k := k + 1 + 1 + 1) (v := v + t) (by omega) (by omega) (by omega) (go_row rfl) R3
    rw [show v + (T + t) = v + t + T by omega]
    exact R4.more (by omega)
end
end Py

set_option Elab.async false
set_option linter.all false
set_option maxRecDepth 100000
set_option maxHeartbeats 4000000
/-! Law 63: the answer is reached. -/
namespace Py
open PySem
section
variable {P : Pg} {most : Int} {k : Nat} {s : St} {cnt : Nat} {sites : List (Int × Int)}
theorem md_at {f : Nat → Int} {a : Nat} (h : a ≤ 3) : atI (P.md f) (a : Int) = some (.tup [.int (P.hm a), .tup [.int (f a)]]) := by
  have : a = 0 ∨ a = 1 ∨ a = 2 ∨ a = 3 := by omega
  rcases this with rfl | rfl | rfl | rfl <;> rfl
theorem md_get {f : Nat → Int} {a : Nat} (h : a ≤ 3) : (P.md f)[a]? = some (.tup [.int (P.hm a), .tup [.int (f a)]]) := by
  have : a = 0 ∨ a = 1 ∨ a = 2 ∨ a = 3 := by omega
  rcases this with rfl | rfl | rfl | rfl <;> rfl
theorem md_set {f : Nat → Int} {a : Nat} {n : Int} (h : a ≤ 3) : (P.md f).set a (.tup [.int (P.hm a), .tup [.int n]]) = P.md (upd f a n) := by
  have : a = 0 ∨ a = 1 ∨ a = 2 ∨ a = 3 := by omega
  rcases this with rfl | rfl | rfl | rfl <;> rfl
theorem tell_row {w : Nat} {i : Int} {row : PV} (h : w < P.W) (e : atI (tellR (P.kd w)) i = some row) : RowAt (P.cf most true) w i row := ⟨_, _, _, code_tell h, e⟩
theorem run_tell {w a : Nat} {num : Int} {f : Nat → Int} {fs : List Fr} {b at_ : Int} {sl : List PV} (ok : P.Ok) (hw : w < P.W) (ha : a ≤ 3) (hn : -100 ≤ num ∧ num ≤ 100) (hf : -500 ≤ f a ∧ f a ≤ 500) (hl : fs.length < 53)
    (R : Rch (P.cf most true) P.bl k s (fs ++ [⟨b, at_, sl, []⟩] ++ [⟨w, 0, [Th a, .int num], []⟩]) (P.md f) cnt .non sites) :
    Rch (P.cf most true) P.bl (k + 7) s (fs ++ [⟨b, at_, sl, [.int (told (P.kd w) num (f a))]⟩]) (P.md (fldN (P.kd w) num f a)) cnt .non sites := by
  have hl2 : (fs ++ [(⟨b, at_, sl, []⟩ : Fr)]).length < 55 := by simp; omega
  have hk := ok.kd w
  have hk' : P.kd w = 0 ∨ P.kd w = 1 ∨ P.kd w = 2 := by omega
  rcases hk' with e | e | e
  · rw [e]
    have row : ∀ {i : Int} {row : PV}, atI (tellR 0) i = some row → RowAt (P.cf most true) w i row := fun {i row} h => tell_row hw (by rw [e]; exact h)
    have R1 := Rch.load (st := []) 1 rfl R hl2 (row rfl) (by simp) (show atI [Th a, .int num] 1 = some (.int num) from rfl)
    have R2 := Rch.load (st := [.int num]) 2 rfl R1 hl2 (row rfl) (by simp) (show atI [Th a, .int num] 0 = some (Th a) from rfl)
    have R3 := Rch.get (st := [.int num]) 3 rfl R2 hl2 (row rfl) (by simp) (md_at ha) (show atI [PV.int (f a)] 0 = some (.int (f a)) from rfl) (ok_int (by omega))
    have R4 := Rch.add (st := []) 4 rfl R3 hl2 (row rfl) (by simp) (by omega) (by omega)
    have R5 := Rch.back (fs := fs) R4 (by omega) (row rfl) (by simp)
    exact R5.more (by omega)
  · rw [e]
    have row : ∀ {i : Int} {row : PV}, atI (tellR 1) i = some row → RowAt (P.cf most true) w i row := fun {i row} h => tell_row hw (by rw [e]; exact h)
    have R1 := Rch.load (st := []) 1 rfl R hl2 (row rfl) (by simp) (show atI [Th a, .int num] 1 = some (.int num) from rfl)
    have R2 := Rch.load (st := [.int num]) 2 rfl R1 hl2 (row rfl) (by simp) (show atI [Th a, .int num] 0 = some (Th a) from rfl)
    have R3 := Rch.get (st := [.int num]) 3 rfl R2 hl2 (row rfl) (by simp) (md_at ha) (show atI [PV.int (f a)] 0 = some (.int (f a)) from rfl) (ok_int (by omega))
    have R4 := Rch.sub (st := []) 4 rfl R3 hl2 (row rfl) (by simp) (by omega) (by omega)
    have R5 := Rch.back (fs := fs) R4 (by omega) (row rfl) (by simp)
    exact R5.more (by omega)
  · rw [e]
    have row : ∀ {i : Int} {row : PV}, atI (tellR 2) i = some row → RowAt (P.cf most true) w i row := fun {i row} h => tell_row hw (by rw [e]; exact h)
    have R1 := Rch.load (st := []) 1 rfl R hl2 (row rfl) (by simp) (show atI [Th a, .int num] 0 = some (Th a) from rfl)
    have R2 := Rch.load (st := [Th a]) 2 rfl R1 hl2 (row rfl) (by simp) (show atI [Th a, .int num] 1 = some (.int num) from rfl)
    have R3 := Rch.put (m := a) 3 rfl R2 hl2 (row rfl) (by unfold ixN; rw [if_pos (by omega), if_pos (by show (a : Int) < (4 : Nat); omega), Int.toNat_natCast]) (md_get ha) (by have := ok.hm a; have := ok.m1; omega)
    rw [md_set ha] at R3
    have R4 := Rch.load (st := [.int num]) 4 rfl R3 hl2 (row rfl) (by simp) (show atI [Th a, .int num] 0 = some (Th a) from rfl)
    have R5 := Rch.get (st := [.int num]) 5 rfl R4 hl2 (row rfl) (by simp) (md_at ha) (show atI [PV.int (upd f a num a)] 0 = some (.int (upd f a num a)) from rfl) (ok_int (by unfold upd; rw [if_pos rfl]; omega))
    have eu : upd f a num a = num := by unfold upd; rw [if_pos rfl]
    rw [eu] at R5
    have R6 := Rch.add (st := []) 6 rfl R5 hl2 (row rfl) (by simp) (by omega) (by omega)
    have R7 := Rch.back (fs := fs) R6 (by omega) (row rfl) (by simp)
    exact R7.more (by omega)
theorem told_small {way : Nat} {num x : Int} (hn : -100 ≤ num ∧ num ≤ 100) (hf : -500 ≤ x ∧ x ≤ 500) : -1000 ≤ told way num x ∧ told way num x ≤ 1000 := by
  unfold told
  split <;> omega
theorem fldN_small {way : Nat} {num : Int} {f : Nat → Int} {a : Nat} (hn : -100 ≤ num ∧ num ≤ 100) (hf : ∀ j, -500 ≤ f j ∧ f j ≤ 500) : ∀ j, -500 ≤ fldN way num f a j ∧ fldN way num f a j ≤ 500 := by
  intro j
  unfold fldN
  split
  · exact hf j
  · exact hf j
  · unfold upd
    split
    · omega
    · exact hf j
def goF (P : Pg) (num : Int) (a b c : Nat) : Fr := ⟨P.W, 0, [Th 0, .int num, Th a, Th b, Th c, .non], []⟩
theorem run_ans (ok : P.Ok) : ∀ (n j : Nat) (p : PS) (ws : List Fr) (T : Int) (k : Nat), j + n = P.count → j ≤ 39 → (1 ≤ p.a ∧ p.a ≤ 3) → (1 ≤ p.b ∧ p.b ≤ 3) → (1 ≤ p.c ∧ p.c ≤ 3) → ws.length = j → Wt P ws T → p.total = P.last + T → (∀ i, -500 ≤ p.f i ∧ p.f i ≤ 500) → k ≤ 12 + 23 * j →
    Rch (P.cf most true) P.bl k s ([mw P] ++ ws ++ [goF P n p.a p.b p.c]) (P.md p.f) p.calls .non p.sites →
    ∃ made, Rch (P.cf most true) P.bl 1500 s [] made (P.ans most n j p).2.1 (P.ans most n j p).1 (P.ans most n j p).2.2 := by
  intro n
  induction n with
  | zero =>
    intro j p ws T k hj j39 ha hb hc hwl hw ht hf hk R
    have hl : ([mw P] ++ ws).length < 53 := by simp; omega
    have hl2 : ([mw P] ++ ws).length < 55 := by omega
    have R1 := Rch.load (st := []) 1 rfl R hl2 (go_row rfl) (by simp) (show atI [Th 0, .int (0 : Nat), Th p.a, Th p.b, Th p.c, .non] 1 = some (.int (0 : Nat)) from rfl)
    have R2 := Rch.push (st := [.int (0 : Nat)]) (v := .int 0) 2 rfl R1 hl2 (go_row rfl) (by simp) (ok_int (by decide))
    have R3 := Rch.same 3 rfl R2 hl2 (go_row rfl)
    have R4 := Rch.unless (c := true) 4 rfl R3 hl2 (go_row rfl)
    have R5 := Rch.push (st := []) (v := .int P.last) 5 rfl R4 hl2 (go_row rfl) (by simp) (ok_int (by have := ok.last; omega))
    have R6 := run_up hw (by omega) (by have := ok.last; omega) (by have := ok.last; omega) (go_row rfl) R5
    rw [← ht] at R6
    exact ⟨_, R6.more (by omega)⟩
  | succ n ih =>
    intro j p ws T k hj j39 ha hb hc hwl hw ht hf hk R
    have hl : ([mw P] ++ ws).length < 53 := by simp; omega
    have hl2 : ([mw P] ++ ws).length < 55 := by omega
    have hlen : ([mw P] ++ ws).length = j + 1 := by simp; omega
    have hcnt := ok.count
    have hnum : ((P.count : Int) - j) = ((n + 1 : Nat) : Int) := by omega
    have hnn : -100 ≤ ((n + 1 : Nat) : Int) ∧ ((n + 1 : Nat) : Int) ≤ 100 := by omega
    have R1 := Rch.load (st := []) 1 rfl R hl2 (go_row rfl) (by simp) (show atI [Th 0, .int (n + 1 : Nat), Th p.a, Th p.b, Th p.c, .non] 1 = some (.int (n + 1 : Nat)) from rfl)
    have R2 := Rch.push (st := [.int (n + 1 : Nat)]) (v := .int 0) 2 rfl R1 hl2 (go_row rfl) (by simp) (ok_int (by decide))
    have R3 := Rch.same 3 rfl R2 hl2 (go_row rfl)
    rw [show decide (((n + 1 : Nat) : Int) = 0) = false from decide_eq_false (by omega)] at R3
    have R4 := Rch.unless (c := false) 6 rfl R3 hl2 (go_row rfl)
    have R5 := Rch.load (st := []) 7 rfl R4 hl2 (go_row rfl) (by simp) (show atI [Th 0, .int (n + 1 : Nat), Th p.a, Th p.b, Th p.c, .non] 2 = some (Th p.a) from rfl)
    have R6 := Rch.load (st := [Th p.a]) 8 rfl R5 hl2 (go_row rfl) (by simp) (show atI [Th 0, .int (n + 1 : Nat), Th p.a, Th p.b, Th p.c, .non] 1 = some (.int (n + 1 : Nat)) from rfl)
    have hwh := ok.wh (P.hm p.a)
    have ebl : P.bl 0 (P.hm p.a : Nat) = (P.wh (P.hm p.a) : Nat) := by unfold Pg.bl; rw [if_pos rfl, Int.toNat_natCast]
    have C1 := Rch.call (vals := [.int (n + 1 : Nat)]) (n := 2) (size := 2) (site := 0) (word := 0) (hs := (P.hm p.a : Nat)) 9 rfl rfl R6 (by omega) rfl (go_row rfl) (by simp) (md_at ha.2) (tabW0 (ok.hm _)) (by rw [ebl]; exact code_tell hwh) (by omega) (by omega) (by rw [ebl]; have := ok.w1; omega)
    unfold Pg.ans
    rcases C1 with ⟨c1, R7⟩ | ⟨c1, c2, R7⟩ | ⟨c1, c2, R7⟩
    · have c1 : (p.calls : Int) = most := c1
      rw [if_pos c1]
      exact ⟨_, R7.more (by omega)⟩
    · have c1 : ¬ (p.calls : Int) = most := c1
      rw [if_neg c1, if_pos (by omega)]
      exact ⟨_, R7.more (by omega)⟩
    · have c1 : ¬ (p.calls : Int) = most := c1
      rw [if_neg c1, if_neg (by omega)]
      rw [ebl] at R7
      have R8 := run_tell ok hwh ha.2 hnn (hf p.a) hl R7
      have ts := told_small (way := P.kd (P.wh (P.hm p.a))) hnn (hf p.a)
      have R9 := Rch.keep (j := 5) 10 rfl R8 hl2 (go_row rfl) (by simp) (by simp)
      have R10 := Rch.load (st := []) 11 rfl R9 hl2 (go_row rfl) (by simp) (show atI [Th 0, .int (n + 1 : Nat), Th p.a, Th p.b, Th p.c, _] 0 = some (Th 0) from rfl)
      have R11 := Rch.load (st := [Th 0]) 12 rfl R10 hl2 (go_row rfl) (by simp) (show atI [Th 0, .int (n + 1 : Nat), Th p.a, Th p.b, Th p.c, _] 1 = some (.int (n + 1 : Nat)) from rfl)
      have R12 := Rch.push (st := [Th 0, .int (n + 1 : Nat)]) (v := .int 1) 13 rfl R11 hl2 (go_row rfl) (by simp) (ok_int (by decide))
      have R13 := Rch.sub (st := [Th 0]) 14 rfl R12 hl2 (go_row rfl) (by simp) (by omega) (by omega)
      rw [show ((n + 1 : Nat) : Int) - 1 = (n : Int) by omega] at R13
      have R14 := Rch.load (st := [Th 0, .int n]) 15 rfl R13 hl2 (go_row rfl) (by simp) (show atI [Th 0, .int (n + 1 : Nat), Th p.a, Th p.b, Th p.c, _] 3 = some (Th p.b) from rfl)
      have R15 := Rch.load (st := [Th 0, .int n, Th p.b]) 16 rfl R14 hl2 (go_row rfl) (by simp) (show atI [Th 0, .int (n + 1 : Nat), Th p.a, Th p.b, Th p.c, _] 4 = some (Th p.c) from rfl)
      have R16 := Rch.load (st := [Th 0, .int n, Th p.b, Th p.c]) 17 rfl R15 hl2 (go_row rfl) (by simp) (show atI [Th 0, .int (n + 1 : Nat), Th p.a, Th p.b, Th p.c, _] 2 = some (Th p.a) from rfl)
      have ebl2 : P.bl 1 (P.hm 0 : Nat) = (P.W : Nat) := by unfold Pg.bl; rw [if_neg (by omega)]
      have C2 := Rch.call (vals := [.int n, Th p.b, Th p.c, Th p.a]) (n := 5) (size := 6) (site := 1) (word := 1) (hs := (P.hm 0 : Nat)) 18 rfl rfl R16 (by omega) rfl (go_row rfl) (by simp) (md_at (a := 0) (by omega)) (tabW1 (ok.hm _) (by omega)) (by rw [ebl2]; exact code_go) (by omega) (by omega) (by rw [ebl2]; have := ok.w1; omega)
      rcases C2 with ⟨c3, R17⟩ | ⟨c3, c4, R17⟩ | ⟨c3, c4, R17⟩
      · have c3 : ((p.calls + 1 : Nat) : Int) = most := c3
        rw [if_pos c3]
        exact ⟨_, R17.more (by omega)⟩
      · omega
      · have c3 : ¬ ((p.calls + 1 : Nat) : Int) = most := c3
        rw [if_neg c3, hnum]
        rw [ebl2] at R17
        refine ih (j + 1) _ (ws ++ [⟨P.W, 18, [Th 0, .int (n + 1 : Nat), Th p.a, Th p.b, Th p.c, .int (told (P.kd (P.wh (P.hm p.a))) ((n + 1 : Nat) : Int) (p.f p.a))], []⟩]) (T + told (P.kd (P.wh (P.hm p.a))) ((n + 1 : Nat) : Int) (p.f p.a)) _ (by omega) (by omega) hb hc ha (by simp; omega) (.snoc hw rfl ts) ?_ (fldN_small hnn hf) ?_ (?_ : Rch _ _ (k + 1 + 1 + 1 + 1 + 1 + 1 + 1 + 7 + 1 + 1 + 1 + 1 + 1 + 1 + 1 + 1 + 1) _ _ _ _ _ _)
        · show p.total + told (P.kd (P.wh (P.hm p.a))) _ _ = _
          rw [ht]; omega
        · omega
        · rw [← List.append_assoc]
          exact R17
end
end Py

set_option Elab.async false
set_option linter.all false
set_option maxRecDepth 100000
set_option maxHeartbeats 4000000
/-! Law 63: from the start; two machines side by side. -/
namespace Py
open PySem
def Pg.answer (P : Pg) (most : Int) : PV × Nat × List (Int × Int) :=
  if most = 0 then (.tup [.str "dry"], 0, [(2, (P.hm 0 : Int))]) else P.ans most P.count 0 ⟨P.vl, P.last, 1, 1, 2, 3, [(2, (P.hm 0 : Int))]⟩
theorem run_all {P : Pg} {most nb : Int} (ok : P.Ok) (hnb : nb = (P.W : Int) + 1) : ∃ made, Rch (P.cf most true) P.bl 1500 (st0 nb [] 0) [] made (P.answer most).2.1 (P.answer most).1 (P.answer most).2.2 := by
  subst hnb
  have R0 : Rch (P.cf most true) P.bl 0 (st0 ((P.W : Int) + 1) [] 0) ([] ++ [⟨(P.W : Int) + 1, 0, [], []⟩]) [] 0 .non [] :=
    ⟨0, _, Nat.le_refl _, .nil rfl, ⟨rfl, rfl, rfl, rfl, rfl, rfl, rfl⟩, fun g hg => by
      have e : g = ⟨(P.W : Int) + 1, 0, [], []⟩ := List.mem_singleton.mp hg
      rw [e]; exact ⟨ok_nil, ok_nil, by show ((P.W : Int) + 1).natAbs ≤ 1000; have := ok.w1; omega, by show (0 : Int).natAbs ≤ 1000; decide, by simp, by simp⟩, ⟨by simp, by simp⟩⟩
  have z : ([] : List Fr).length < 55 := by simp
  have R1 := Rch.push (st := []) (v := .int (P.vl 0)) 1 rfl R0 z (main_row rfl) (by simp) (ok_int (by have := ok.vl 0; omega))
  have R2 := Rch.make (st := []) (v := .int (P.vl 0)) 2 rfl R1 z (main_row rfl) (by simp) (by simp) (by have := ok.hm 0; have := ok.m1; omega)
  have R3 := Rch.push (st := [Th 0]) (v := .int P.count) 3 rfl R2 z (main_row rfl) (by simp) (ok_int (by have := ok.count; omega))
  have R4 := Rch.push (st := [Th 0, .int P.count]) (v := .int (P.vl 1)) 4 rfl R3 z (main_row rfl) (by simp) (ok_int (by have := ok.vl 1; omega))
  have R5 := Rch.make (st := [Th 0, .int P.count]) (v := .int (P.vl 1)) 5 rfl R4 z (main_row rfl) (by simp) (by simp) (by have := ok.hm 1; have := ok.m1; omega)
  have R6 := Rch.push (st := [Th 0, .int P.count, Th 1]) (v := .int (P.vl 2)) 6 rfl R5 z (main_row rfl) (by simp) (ok_int (by have := ok.vl 2; omega))
  have R7 := Rch.make (st := [Th 0, .int P.count, Th 1]) (v := .int (P.vl 2)) 7 rfl R6 z (main_row rfl) (by simp) (by simp) (by have := ok.hm 2; have := ok.m1; omega)
  have R8 := Rch.push (st := [Th 0, .int P.count, Th 1, Th 2]) (v := .int (P.vl 3)) 8 rfl R7 z (main_row rfl) (by simp) (ok_int (by have := ok.vl 3; omega))
  have R9 : Rch (P.cf most true) P.bl 9 (st0 ((P.W : Int) + 1) [] 0) ([] ++ [⟨(P.W : Int) + 1, 9, [], [Th 0, .int P.count, Th 1, Th 2, Th 3]⟩]) (P.md P.vl) 0 .non [] :=
    Rch.make (st := [Th 0, .int P.count, Th 1, Th 2]) (v := .int (P.vl 3)) 9 rfl R8 z (main_row rfl) (by simp) (by simp) (by have := ok.hm 3; have := ok.m1; omega)
  have ebl : P.bl 2 (P.hm 0 : Nat) = (P.W : Nat) := by unfold Pg.bl; rw [if_neg (by omega)]
  have C1 := Rch.call (vals := [.int P.count, Th 1, Th 2, Th 3]) (n := 5) (size := 6) (site := 2) (word := 1) (hs := (P.hm 0 : Nat)) 10 rfl rfl R9 (by simp) rfl (main_row rfl) (by simp) (md_at (a := 0) (by omega)) (tabW1 (ok.hm _) (by omega)) (by rw [ebl]; exact code_go) (by omega) (by omega) (by rw [ebl]; have := ok.w1; omega)
  unfold Pg.answer
  rcases C1 with ⟨c1, R⟩ | ⟨c1, c2, R⟩ | ⟨c1, c2, R⟩
  · have c1 : ((0 : Nat) : Int) = most := c1
    rw [if_pos (by omega)]
    exact ⟨_, R.more (by omega)⟩
  · simp at c2
  · have c1 : ¬ ((0 : Nat) : Int) = most := c1
    rw [if_neg (by omega)]
    rw [ebl] at R
    exact run_ans (s := st0 ((P.W : Int) + 1) [] 0) ok P.count 0 ⟨P.vl, P.last, 1, 1, 2, 3, [(2, (P.hm 0 : Int))]⟩ [] 0 10 (by omega) (by omega) (show 1 ≤ 1 ∧ 1 ≤ 3 by omega) (show 1 ≤ 2 ∧ 2 ≤ 3 by omega) (show 1 ≤ 3 ∧ 3 ≤ 3 by omega) rfl .nil (by show P.last = P.last + 0; omega) ok.vl (by omega) R
/-! ### side by side -/
structure Like (s t : St) : Prop where
  pile : t.pile = s.pile
  made : t.made = s.made
  cnt : t.counted = s.counted
  gone : t.gone = s.gone
  ended : t.ended = s.ended
  sought : t.sought = s.sought + s.met
  met : t.met = 0
  pairs : t.pairs = fun _ => []
def wordOf (x : Int) : Int := if x = 0 then 0 else 1
def Con (C : Cf) (s : St) : Prop := ∀ x p, p ∈ s.pairs x → TabIs C p.1 (wordOf x) p.2
def GoodC (C : Cf) : Prop := ∀ b a site word n, RowAt C b a (.tup [.str "call", .int site, .int word, n]) → word = wordOf site
theorem found_mem {a b : Int} {l : List (Int × Int)} (e : found a l = .int b) : (a, b) ∈ l := by
  unfold found at e
  cases q : l.find? fun p => decide (p.1 = a) with
  | none => rw [q] at e; cases e
  | some p =>
    rw [q] at e
    have h1 := List.mem_of_find?_eq_some q
    have h2 : p.1 = a := by simpa using List.find?_some q
    have h3 : p.2 = b := by injection e
    rw [← h2, ← h3]; exact h1
theorem front_mem {a : Int} {l : List (Int × Int)} {p : Int × Int} (h : p ∈ front a l) : p ∈ l := by
  unfold front at h
  rcases List.mem_append.mp h with h | h <;> exact (List.mem_filter.mp h).1
theorem like_enter {C : Cf} {s t s' : St} {fs : List Fr} {b a : Int} {sl rest vals : List PV} {bb : Int} (E : EnterR C s fs b a sl rest vals bb s') (L : Like s t) (c : Con C s) : ∃ t', EnterR { C with keeps := false } t fs b a sl rest vals bb t' ∧ Like s' t' ∧ Con C s' := by
  cases E with
  | dry h => exact ⟨_, .dry (by rw [L.cnt]; exact h), ⟨rfl, L.made, L.cnt, L.gone, rfl, L.sought, L.met, L.pairs⟩, c⟩
  | deep h h2 => exact ⟨_, .deep (by rw [L.cnt]; exact h) (by rw [L.pile]; exact h2), ⟨rfl, L.made, by show t.counted + 1 = s.counted + 1; rw [L.cnt], L.gone, rfl, L.sought, L.met, L.pairs⟩, c⟩
  | go h h2 h3 h4 h5 h6 => exact ⟨_, .go (by rw [L.cnt]; exact h) (by rw [L.pile]; exact h2) h3 h4 h5 h6, ⟨rfl, L.made, by show t.counted + 1 = s.counted + 1; rw [L.cnt], L.gone, L.ended, L.sought, L.met, L.pairs⟩, c⟩
theorem like_back {C : Cf} {s t s' : St} {fs : List Fr} {v : PV} (E : BackR s fs v s') (L : Like s t) (c : Con C s) : ∃ t', BackR t fs v t' ∧ Like s' t' ∧ Con C s' := by
  cases E with
  | on h h2 => exact ⟨_, .on h h2, ⟨rfl, L.made, L.cnt, L.gone, L.ended, L.sought, L.met, L.pairs⟩, c⟩
  | thing h h2 h3 => exact ⟨_, .thing h h2 (by rw [L.made]; exact h3), ⟨rfl, L.made, L.cnt, L.gone, rfl, L.sought, L.met, L.pairs⟩, c⟩
  | value h h2 => exact ⟨_, .value h h2, ⟨rfl, L.made, L.cnt, L.gone, rfl, L.sought, L.met, L.pairs⟩, c⟩
theorem like_g1 {s t : St} (L : Like s t) : Like (g1 s) (g1 t) := ⟨L.pile, L.made, L.cnt, by show t.gone + 1 = s.gone + 1; rw [L.gone], L.ended, L.sought, L.met, L.pairs⟩
theorem sim {C : Cf} (hk : C.keeps = true) (g : GoodC C) {s t s' : St} {fs : List Fr} {f : Fr} (T : Stp C s fs f s') (L : Like s t) (c : Con C s) : ∃ t', Stp { C with keeps := false } t fs f t' ∧ Like s' t' ∧ Con C s' := by
  have hg : t.gone + 1 = s.gone + 1 := by rw [L.gone]
  cases T with
  | own hr hw ho => exact ⟨_, .own hr hw (by rw [L.made]; exact ho), ⟨rfl, L.made, L.cnt, hg, L.ended, L.sought, L.met, L.pairs⟩, c⟩
  | ref hr hw ho => exact ⟨_, .ref hr hw (by rw [L.made]; exact ho), ⟨rfl, L.made, L.cnt, hg, rfl, L.sought, L.met, L.pairs⟩, c⟩
  | make hr hst hm hz =>
    refine ⟨_, .make hr hst (by rw [L.made]; exact hm) hz, ⟨?_, ?_, L.cnt, hg, L.ended, L.sought, L.met, L.pairs⟩, c⟩
    · show _ ++ [(⟨_, _, _, _ ++ [.tup [.str "thing", .int (t.made.length : Nat)]]⟩ : Fr)] = _
      rw [L.made]
    · show t.made ++ _ = _
      rw [L.made]
  | put hr hst hi hm hj hv hz =>
    refine ⟨_, .put hr hst (by rw [L.made]; exact hi) (by rw [L.made]; exact hm) hj hv hz, ⟨rfl, ?_, L.cnt, hg, L.ended, L.sought, L.met, L.pairs⟩, c⟩
    show t.made.set _ _ = _
    rw [L.made]
  | back hr hst hB =>
    obtain ⟨t', B, L', c'⟩ := like_back (C := C) hB (like_g1 L) c
    exact ⟨t', .back hr hst B, L', c'⟩
  | str hr hst hz E =>
    obtain ⟨t', B, L', c'⟩ := like_enter E (like_g1 L) c
    exact ⟨t', .str hr hst hz B, L', c'⟩
  | @call site word i house bb r rest vals s1 _ hr hst hz hi hok LK E =>
    have hw := g _ _ _ _ _ hr
    have look : ∃ t1, LookR { C with keeps := false } (g1 t) site word house t1 bb ∧ Like s1 t1 ∧ Con C s1 := by
      cases LK with
      | plain h _ => rw [hk] at h; cases h
      | hit h e =>
        have m := found_mem e
        refine ⟨_, .plain rfl (by have := c site (house, bb) m; rw [hw]; exact this), ⟨L.pile, L.made, L.cnt, hg, L.ended, ?_, L.met, L.pairs⟩, fun x p hp => ?_⟩
        · show t.sought + 1 = s.sought + (s.met + 1)
          rw [L.sought]; omega
        · have hp : p ∈ setP s.pairs site (front house (s.pairs site)) x := hp
          unfold setP at hp
          split at hp
          · rename_i e; subst e; exact c _ p (front_mem hp)
          · exact c x p hp
      | miss h e tb =>
        refine ⟨_, .plain rfl tb, ⟨L.pile, L.made, L.cnt, hg, L.ended, ?_, L.met, L.pairs⟩, fun x p hp => ?_⟩
        · show t.sought + 1 = s.sought + 1 + s.met
          rw [L.sought]; omega
        · have hp : p ∈ setP s.pairs site (((house, bb) :: front house (s.pairs site)).take 2) x := hp
          unfold setP at hp
          split at hp
          · rename_i e; subst e
            have hp := List.mem_of_mem_take hp
            rcases List.mem_cons.mp hp with z | z
            · subst z; rw [← hw]; exact tb
            · exact c _ p (front_mem z)
          · exact c x p hp
    obtain ⟨t1, LK', L1, c1⟩ := look
    obtain ⟨t', E', L', c'⟩ := like_enter E L1 c1
    exact ⟨t', .call hr hst hz (by rw [L.made]; exact hi) (fun x => by rw [L.pairs]; exact .inl rfl) LK' E', L', c'⟩
theorem good_cf {P : Pg} {most : Int} {keeps : Bool} : GoodC (P.cf most keeps) := by
  intro b a site word n ⟨many, size, rows, e1, e2⟩
  have m1 : PV.tup [many, size, .tup rows] ∈ P.code := atI_mem e1
  have m2 := atI_mem e2
  unfold Pg.code at m1
  rcases List.mem_append.mp m1 with m1 | m1
  · rcases List.mem_append.mp m1 with m1 | m1
    · obtain ⟨w, _, e⟩ := List.mem_map.mp m1
      have e : tellB (P.kd w) = _ := e
      unfold tellB at e
      have e : tellR (P.kd w) = rows := by injection e with e; injection e with _ e; injection e with _ e; injection e with e _; injection e
      rw [← e] at m2
      unfold tellR at m2
      split at m2 <;> simp [lit_inj] at m2
    · have e := List.mem_singleton.mp m1
      unfold goB at e
      have e : rows = goR P.last := by injection e with e; injection e with _ e; injection e with _ e; injection e with e _; injection e
      rw [e] at m2
      unfold goR at m2
      simp [lit_inj] at m2
      unfold wordOf
      rcases m2 with ⟨rfl, rfl, _⟩ | ⟨rfl, rfl, _⟩ <;> simp
  · have e := List.mem_singleton.mp m1
    unfold Pg.mainB at e
    have e : rows = P.mainR := by injection e with e; injection e with _ e; injection e with _ e; injection e with e _; injection e
    rw [e] at m2
    unfold Pg.mainR Pg.pair at m2
    simp [lit_inj] at m2
    unfold wordOf
    obtain ⟨rfl, rfl, _⟩ := m2
    simp
end Py

set_option Elab.async false
set_option linter.all false
set_option maxRecDepth 100000
set_option maxHeartbeats 4000000
/-! Law 63, over the reading: the program that is drawn. -/
namespace Py
open PySem
theorem at_in {α : Type} {xs : List α} {j : Int} (h0 : 0 ≤ j) (h1 : j < xs.length) : ∃ v, atI xs j = some v ∧ v ∈ xs := by
  obtain ⟨i, rfl⟩ := Int.eq_ofNat_of_zero_le h0
  have hi : i < xs.length := by omega
  exact ⟨xs[i], by rw [atI_nat, List.getElem?_eq_getElem hi], List.getElem_mem hi⟩
theorem iLat {a : Nat} {i : Int} {xs : List PV} {v : PV} {h : PH} {Q : KQ} (e : lstOf h (.ref a) = some xs) (e2 : atI xs i = some v) : idxV (.ref a) (.int i) h Q = Q v h := by
  rw [iRef]
  exact propext ⟨fun ⟨ys, e3, w, e4, q⟩ => by rw [e] at e3; cases e3; rw [e2] at e4; cases e4; exact q, fun q => ⟨_, e, v, e2, q⟩⟩
theorem lstOf_kept {h h' : PH} {a : Nat} {xs : List PV} (hk : Kept h h') (e2 : lstOf h (.ref a) = some xs) : lstOf h' (.ref a) = some xs := by
  unfold lstOf at e2 ⊢
  dsimp only at e2 ⊢
  cases q : h[a]? with
  | none => rw [q] at e2; cases e2
  | some o => rw [hk a o q]; rw [q] at e2; exact e2
theorem Kept.app {h t : PH} : Kept h (h ++ t) := fun a o e => get_app e
theorem Kept.trans {h h1 h2 : PH} (a : Kept h h1) (b : Kept h1 h2) : Kept h h2 := fun x o e => b x o (a x o e)
theorem Kept.set {h h' : PH} {a : Nat} {o : PO} (k : Kept h h') (l : h.length ≤ a) : Kept h (h'.set a o) := fun x u e => get_set_ne (k x u e) (by have := (List.getElem?_eq_some_iff.mp e).1; omega)
theorem Kept.le {h h' : PH} (k : Kept h h') : h.length ≤ h'.length := by
  cases q : h.length with
  | zero => omega
  | succ n =>
    have := (List.getElem?_eq_some_iff.mp (k n _ (List.getElem?_eq_getElem (by omega)))).1
    omega
theorem range_at {n i : Nat} {lo : Int} {x : PV} (e : (rangeL lo n)[i]? = some x) : i < n ∧ x = .int (lo + i) := by
  unfold rangeL at e
  rw [List.getElem?_map] at e
  obtain ⟨j, hj, rfl⟩ := Option.map_eq_some_iff.mp e
  obtain ⟨h1, h2⟩ := List.getElem?_eq_some_iff.mp hj
  rw [List.getElem_range] at h2
  rw [List.length_range] at h1
  subst h2
  exact ⟨h1, rfl⟩
theorem range_len {lo : Int} {n : Nat} : (rangeL lo n).length = n := by unfold rangeL; simp
/-- a comprehension whose terms may leave the heap longer -/
theorem comp_ix {live : PH → Prop} {body : PV → PH → (Option PV → PH → Prop) → Prop} {fin : PH → Prop} {h0 : PH} {dd : Nat} (hd : dd = h0.length) (hl : ∀ h', Kept h0 h' → live h') (g : Nat → PV) :
    ∀ (items : List PV) (b : Nat) (acc : List PV) (hh : PH), (∀ i x, items[i]? = some x → ∀ h' K, Kept h0 h' → (∀ t, K (some (g (b + i))) (h' ++ t)) → body x h' K) → Kept h0 hh → hh[dd]? = some (.lst acc) → acc.length + items.length < 1000 →
      (∀ h', Kept h0 h' → h'[dd]? = some (.lst (acc ++ (List.range items.length).map fun i => g (b + i))) → fin h') → compL live dd body fin items hh
  | [], b, acc, hh, hb, hk, hdd, hz, hf => ⟨hl _ hk, hf hh hk (by simpa using hdd)⟩
  | x :: r, b, acc, hh, hb, hk, hdd, hz, hf => ⟨hl _ hk, hb 0 x rfl hh _ hk fun t => ⟨acc, get_app hdd, by simp at hz; show _ < 16777216; omega, by
      have hlt := (List.getElem?_eq_some_iff.mp hdd).1
      refine comp_ix hd hl g r (b + 1) (acc ++ [g b]) _ (fun i y hy h' K hk' hK => hb (i + 1) y (by simpa using hy) h' K hk' (by rw [show b + (i + 1) = b + 1 + i by omega]; exact hK)) ((hk.trans Kept.app).set (by omega)) ?_ (by simp at hz ⊢; omega) fun h' hk' e => hf h' hk' ?_
      · rw [List.getElem?_set_self (by simp; omega)]; rfl
      · rw [e, List.length_cons, List.range_succ_eq_map, List.map_cons, List.map_map, List.append_assoc]
        have e2 : (List.range r.length).map (fun i => g (b + 1 + i)) = (List.range r.length).map ((fun i => g (b + i)) ∘ Nat.succ) := List.map_congr_left fun i _ => by show g _ = g _; congr 1; omega
        rw [e2]; rfl⟩⟩
theorem ints_of {vs : List PV} {p : Int → Prop} (h : ∀ v ∈ vs, ∃ m : Int, v = .int m ∧ p m) : ∃ ms : List Int, vs = ms.map .int ∧ ∀ m ∈ ms, p m := by
  induction vs with
  | nil => exact ⟨[], rfl, by simp⟩
  | cons x r ih =>
    obtain ⟨ms, e, hm⟩ := ih fun v hv => h v (List.mem_cons_of_mem _ hv)
    obtain ⟨m, e2, pm⟩ := h x (List.mem_cons_self ..)
    refine ⟨m :: ms, by rw [e, e2]; rfl, fun z hz => ?_⟩
    rcases List.mem_cons.mp hz with rfl | hz
    · exact pm
    · exact hm z hz
section
variable {k : Nat} {h : PH} {Q : KQ} {X : KX}
theorem s_cell {a : Nat} {j : Int} {ns : List Int} (hs : lstOf h (.ref a) = some (ns.map PV.int)) (h0 : 0 ≤ j) (q : Q (.int (ns.getD j.toNat 0)) h) : callS sgT (k + 1) (.fn n__law_cell_at) [.ref a, .int j] h Q X := by
  rw [call_in (d := d__law_cell_at) rfl rfl]
  simp only [evB, evS, evE, evEs, evO, evC, evT, evG, evGs, bAdd, bAddT, bSub, bMulL, bMulR, bDivL, bModL, cLt, cLe, cGt, cGe, cIs, cNot, iT0, iT1, fMin, fMax, fAbs, fLenT, tyT, tyI, tyB, tyS, truB, truI, ex_int, ex_bl, ex_tup, ex_some, ex_cons, eq_self, ex_var, eq_int, ne_int, eq_lit, ne_lit, startL, List.map_cons, List.map_nil, List.cons_append, List.nil_append, List.length_cons, List.length_nil, List.replicate, List.getElem?_cons_zero, List.getElem?_cons_succ, List.set_cons_zero, List.set_cons_succ, lenTs, Int.reduceToNat, Int.reducePow, Int.reduceSub, Int.reduceAdd, Int.reduceMul, Int.reduceNeg, Int.reduceLT, Int.reduceLE, Int.reduceEq, Nat.reduceLT, Nat.reduceLeDiff, Nat.reduceAdd, Nat.reduceSub, Nat.reducePow, bPowL, SZ, tyOf, evI, items_ref, items_tup, live_ref, live_tup, lstOf_new, true_and, and_true, ne_eq, not_true_eq_false, not_false_eq_true, Int.cast_ofNat_Int, decide_eq_true_eq, if_true, if_false, ite_true, ite_false, List.nil_append, isB, String.reduceBEq, String.reduceEq, decide_true, decide_false, Bool.false_eq_true, Bool.or_false, Bool.and_false, Bool.or_true, Bool.and_true, Bool.true_and, Bool.false_and, Bool.not_true, Bool.not_false, ite_true, ite_false, reduceIte, Bool.true_or, Bool.false_or, gt_iff_lt, ge_iff_le, iM1, iM1', iM2, cut_last, cut_last2, slT, fTupL, fTupT, fListL, fInt, fIntB, wipe0, wipe1, tNs, tsNs, inT, isBl, notBl, List.all_cons, List.all_nil, List.any_cons, List.any_nil, flP, eqP, isBlB, notRef, lit_beq, List.append_nil, List.not_mem_nil, isNonB, Int.neg_neg, Int.reduceNegSucc, d__law_cell_at, b__law_cell_at, fLenL, iRef, hs]
  obtain ⟨i, rfl⟩ := Int.eq_ofNat_of_zero_le h0
  rw [Int.toNat_natCast] at q
  by_cases hj : (i : Int) < ((ns.map PV.int).length : Int)
  · rw [if_pos hj]
    have hi : i < ns.length := by simpa using hj
    refine ⟨_, by rw [atI_nat, List.getElem?_map, List.getElem?_eq_getElem hi]; rfl, ?_⟩
    rw [List.getD_eq_getElem?_getD, List.getElem?_eq_getElem hi] at q
    exact q
  · rw [if_neg hj]
    have hi : ¬ i < ns.length := by simpa using hj
    rw [List.getD_eq_getElem?_getD, List.getElem?_eq_none (by omega)] at q
    exact q
theorem s_mixed {c : Int} {j : Int} (h0 : 0 ≤ j) (h1 : j < 1000000) (q : ∀ m, 0 ≤ m → m < 2147483647 → Q (.int m) h) : callS sgT (k + 1) (.fn n__law_mixed) [.int c, .int j] h Q X := by
  rw [call_in (d := d__law_mixed) rfl rfl]
  simp only [evB, evS, evE, evEs, evO, evC, evT, evG, evGs, bAdd, bAddT, bSub, bMulL, bMulR, bDivL, bModL, cLt, cLe, cGt, cGe, cIs, cNot, iT0, iT1, fMin, fMax, fAbs, fLenT, tyT, tyI, tyB, tyS, truB, truI, ex_int, ex_bl, ex_tup, ex_some, ex_cons, eq_self, ex_var, eq_int, ne_int, eq_lit, ne_lit, startL, List.map_cons, List.map_nil, List.cons_append, List.nil_append, List.length_cons, List.length_nil, List.replicate, List.getElem?_cons_zero, List.getElem?_cons_succ, List.set_cons_zero, List.set_cons_succ, lenTs, Int.reduceToNat, Int.reducePow, Int.reduceSub, Int.reduceAdd, Int.reduceMul, Int.reduceNeg, Int.reduceLT, Int.reduceLE, Int.reduceEq, Nat.reduceLT, Nat.reduceLeDiff, Nat.reduceAdd, Nat.reduceSub, Nat.reducePow, bPowL, SZ, tyOf, evI, items_ref, items_tup, live_ref, live_tup, lstOf_new, true_and, and_true, ne_eq, not_true_eq_false, not_false_eq_true, Int.cast_ofNat_Int, decide_eq_true_eq, if_true, if_false, ite_true, ite_false, List.nil_append, isB, String.reduceBEq, String.reduceEq, decide_true, decide_false, Bool.false_eq_true, Bool.or_false, Bool.and_false, Bool.or_true, Bool.and_true, Bool.true_and, Bool.false_and, Bool.not_true, Bool.not_false, ite_true, ite_false, reduceIte, Bool.true_or, Bool.false_or, gt_iff_lt, ge_iff_le, iM1, iM1', iM2, cut_last, cut_last2, slT, fTupL, fTupT, fListL, fInt, fIntB, wipe0, wipe1, tNs, tsNs, inT, isBl, notBl, List.all_cons, List.all_nil, List.any_cons, List.any_nil, flP, eqP, isBlB, notRef, lit_beq, List.append_nil, List.not_mem_nil, isNonB, Int.neg_neg, Int.reduceNegSucc, d__law_mixed, b__law_mixed]
  have b : ∀ x : Int, 0 ≤ x % 2147483647 ∧ x % 2147483647 < 2147483647 := fun x => by omega
  have b1 := b (c * 48271 + 7919 * j + 12345)
  rw [bMulOk (by omega)]
  simp only [evB, evS, evE, evEs, evO, evC, evT, evG, evGs, bAdd, bAddT, bSub, bMulL, bMulR, bDivL, bModL, cLt, cLe, cGt, cGe, cIs, cNot, iT0, iT1, fMin, fMax, fAbs, fLenT, tyT, tyI, tyB, tyS, truB, truI, ex_int, ex_bl, ex_tup, ex_some, ex_cons, eq_self, ex_var, eq_int, ne_int, eq_lit, ne_lit, startL, List.map_cons, List.map_nil, List.cons_append, List.nil_append, List.length_cons, List.length_nil, List.replicate, List.getElem?_cons_zero, List.getElem?_cons_succ, List.set_cons_zero, List.set_cons_succ, lenTs, Int.reduceToNat, Int.reducePow, Int.reduceSub, Int.reduceAdd, Int.reduceMul, Int.reduceNeg, Int.reduceLT, Int.reduceLE, Int.reduceEq, Nat.reduceLT, Nat.reduceLeDiff, Nat.reduceAdd, Nat.reduceSub, Nat.reducePow, bPowL, SZ, tyOf, evI, items_ref, items_tup, live_ref, live_tup, lstOf_new, true_and, and_true, ne_eq, not_true_eq_false, not_false_eq_true, Int.cast_ofNat_Int, decide_eq_true_eq, if_true, if_false, ite_true, ite_false, List.nil_append, isB, String.reduceBEq, String.reduceEq, decide_true, decide_false, Bool.false_eq_true, Bool.or_false, Bool.and_false, Bool.or_true, Bool.and_true, Bool.true_and, Bool.false_and, Bool.not_true, Bool.not_false, ite_true, ite_false, reduceIte, Bool.true_or, Bool.false_or, gt_iff_lt, ge_iff_le, iM1, iM1', iM2, cut_last, cut_last2, slT, fTupL, fTupT, fListL, fInt, fIntB, wipe0, wipe1, tNs, tsNs, inT, isBl, notBl, List.all_cons, List.all_nil, List.any_cons, List.any_nil, flP, eqP, isBlB, notRef, lit_beq, List.append_nil, List.not_mem_nil, isNonB, Int.neg_neg, Int.reduceNegSucc]
  rw [bMulOk (by omega)]
  simp only [evB, evS, evE, evEs, evO, evC, evT, evG, evGs, bAdd, bAddT, bSub, bMulL, bMulR, bDivL, bModL, cLt, cLe, cGt, cGe, cIs, cNot, iT0, iT1, fMin, fMax, fAbs, fLenT, tyT, tyI, tyB, tyS, truB, truI, ex_int, ex_bl, ex_tup, ex_some, ex_cons, eq_self, ex_var, eq_int, ne_int, eq_lit, ne_lit, startL, List.map_cons, List.map_nil, List.cons_append, List.nil_append, List.length_cons, List.length_nil, List.replicate, List.getElem?_cons_zero, List.getElem?_cons_succ, List.set_cons_zero, List.set_cons_succ, lenTs, Int.reduceToNat, Int.reducePow, Int.reduceSub, Int.reduceAdd, Int.reduceMul, Int.reduceNeg, Int.reduceLT, Int.reduceLE, Int.reduceEq, Nat.reduceLT, Nat.reduceLeDiff, Nat.reduceAdd, Nat.reduceSub, Nat.reducePow, bPowL, SZ, tyOf, evI, items_ref, items_tup, live_ref, live_tup, lstOf_new, true_and, and_true, ne_eq, not_true_eq_false, not_false_eq_true, Int.cast_ofNat_Int, decide_eq_true_eq, if_true, if_false, ite_true, ite_false, List.nil_append, isB, String.reduceBEq, String.reduceEq, decide_true, decide_false, Bool.false_eq_true, Bool.or_false, Bool.and_false, Bool.or_true, Bool.and_true, Bool.true_and, Bool.false_and, Bool.not_true, Bool.not_false, ite_true, ite_false, reduceIte, Bool.true_or, Bool.false_or, gt_iff_lt, ge_iff_le, iM1, iM1', iM2, cut_last, cut_last2, slT, fTupL, fTupT, fListL, fInt, fIntB, wipe0, wipe1, tNs, tsNs, inT, isBl, notBl, List.all_cons, List.all_nil, List.any_cons, List.any_nil, flP, eqP, isBlB, notRef, lit_beq, List.append_nil, List.not_mem_nil, isNonB, Int.neg_neg, Int.reduceNegSucc]
  exact q _ (b _).1 (b _).2
theorem s_tell {m : Int} (h0 : 0 ≤ m) (q : ∀ t, Q (.tup (tellR (m % 3).toNat)) (h ++ t)) : callS sgT (k + 1) (.fn n__law_tell_rows) [.int m] h Q X := by
  rw [call_in (d := d__law_tell_rows) rfl rfl]
  simp only [evB, evS, evE, evEs, evO, evC, evT, evG, evGs, bAdd, bAddT, bSub, bMulL, bMulR, bDivL, bModL, cLt, cLe, cGt, cGe, cIs, cNot, iT0, iT1, fMin, fMax, fAbs, fLenT, tyT, tyI, tyB, tyS, truB, truI, ex_int, ex_bl, ex_tup, ex_some, ex_cons, eq_self, ex_var, eq_int, ne_int, eq_lit, ne_lit, startL, List.map_cons, List.map_nil, List.cons_append, List.nil_append, List.length_cons, List.length_nil, List.replicate, List.getElem?_cons_zero, List.getElem?_cons_succ, List.set_cons_zero, List.set_cons_succ, lenTs, Int.reduceToNat, Int.reducePow, Int.reduceSub, Int.reduceAdd, Int.reduceMul, Int.reduceNeg, Int.reduceLT, Int.reduceLE, Int.reduceEq, Nat.reduceLT, Nat.reduceLeDiff, Nat.reduceAdd, Nat.reduceSub, Nat.reducePow, bPowL, SZ, tyOf, evI, items_ref, items_tup, live_ref, live_tup, lstOf_new, true_and, and_true, ne_eq, not_true_eq_false, not_false_eq_true, Int.cast_ofNat_Int, decide_eq_true_eq, if_true, if_false, ite_true, ite_false, List.nil_append, isB, String.reduceBEq, String.reduceEq, decide_true, decide_false, Bool.false_eq_true, Bool.or_false, Bool.and_false, Bool.or_true, Bool.and_true, Bool.true_and, Bool.false_and, Bool.not_true, Bool.not_false, ite_true, ite_false, reduceIte, Bool.true_or, Bool.false_or, gt_iff_lt, ge_iff_le, iM1, iM1', iM2, cut_last, cut_last2, slT, fTupL, fTupT, fListL, fInt, fIntB, wipe0, wipe1, tNs, tsNs, inT, isBl, notBl, List.all_cons, List.all_nil, List.any_cons, List.any_nil, flP, eqP, isBlB, notRef, lit_beq, List.append_nil, List.not_mem_nil, isNonB, Int.neg_neg, Int.reduceNegSucc, d__law_tell_rows, b__law_tell_rows]
  have : m % 3 = 0 ∨ m % 3 = 1 ∨ m % 3 = 2 := by omega
  rcases this with e | e | e
  · rw [e] at q ⊢
    rw [if_neg (by omega), iLat (lst_got get_new) (show atI [PV.str (Str.ofString "add"), PV.str (Str.ofString "sub")] 0 = some _ from rfl)]
    exact q _
  · rw [e] at q ⊢
    rw [if_neg (by omega), iLat (lst_got get_new) (show atI [PV.str (Str.ofString "add"), PV.str (Str.ofString "sub")] 1 = some _ from rfl)]
    exact q _
  · rw [e] at q ⊢
    rw [if_pos rfl]
    have q := q []
    rw [List.append_nil] at q
    exact q
end
def b__law_program_16 : B :=
  (.cons (.ret (.tup (.cons (.var 5) (.cons (.var 6) (.cons (.lc (.bin .mod (.idx (.var 3) (.idx (.var 14) (.int 0))) (.int 3)) (.nm 14) (.seq (.var 6)) .no) (.cons (.var 8) (.cons (.var 9) (.cons (.var 10) (.cons (.bin .mod (.bin .fdiv (.var 1) (.int 12)) (.int 50)) .nil))))))))) .nil)
def b__law_program_13 : B :=
  (.cons (.asg (.nm 11) (.lst (.cons (.tup (.cons (.str "push") (.cons (.idx (.var 9) (.int 0)) .nil))) (.cons (.tup (.cons (.str "make") (.cons (.idx (.var 8) (.int 0)) (.cons (.int 1) .nil)))) (.cons (.tup (.cons (.str "push") (.cons (.var 10) .nil))) .nil)))))
  (.cons (.for (.nm 12) (.rng2 (.int 1) (.int 4)) (.cons (.exp (.bm .extend (.var 11) (.cons (.lst (.cons (.tup (.cons (.str "push") (.cons (.idx (.var 9) (.var 12)) .nil))) (.cons (.tup (.cons (.str "make") (.cons (.idx (.var 8) (.var 12)) (.cons (.int 1) .nil)))) .nil))) .nil)))
  .nil))
  (.cons (.exp (.bm .append (.var 5) (.cons (.tup (.cons (.int 0) (.cons (.int 0) (.cons (.bf .tuple1 (.cons (.bin .add (.var 11) (.lst (.cons (.tup (.cons (.str "call") (.cons (.int 2) (.cons (.int 1) (.cons (.int 5) .nil))))) (.cons (.tup (.cons (.str "back") .nil)) .nil)))) .nil)) .nil)))) .nil))) b__law_program_16)))
def b__law_program_11 : B :=
  (.cons (.asg (.nm 9) (.lc (.bin .sub (.bin .mod (.bin .fdiv (.call n__law_cell_at (.cons (.var 0) (.cons (.int 4) .nil))) (.bin .add (.int 1) (.bin .mul (.int 3) (.var 12)))) (.int 1000)) (.int 500)) (.nm 12) (.rng1 (.int 4)) .no))
  (.cons (.asg (.nm 10) (.bin .mod (.bin .fdiv (.call n__law_cell_at (.cons (.var 0) (.cons (.int 5) .nil))) (.int 8)) (.idx (.lst (.cons (.int 13) (.cons (.int 46) .nil))) (.bf .int1 (.cons (.cmp .eq (.bin .mod (.call n__law_cell_at (.cons (.var 0) (.cons (.int 5) .nil))) (.int 8)) (.int 3)) .nil))))) b__law_program_13))
def b__law_program_10 : B :=
  (.cons (.asg (.nm 8) (.lc (.bin .mod (.call n__law_mixed (.cons (.bin .add (.call n__law_cell_at (.cons (.var 0) (.cons (.int 3) .nil))) (.var 12)) (.cons (.int 5) .nil))) (.var 2)) (.nm 12) (.rng1 (.int 4)) .no)) b__law_program_11)
def b__law_program_8 : B :=
  (.cons (.asg (.nm 6) (.lst .nil))
  (.cons (.for (.nm 7) (.rng1 (.var 2)) (.cons (.exp (.bm .append (.var 6) (.cons (.lst (.cons (.bin .mod (.call n__law_mixed (.cons (.bin .add (.call n__law_cell_at (.cons (.var 0) (.cons (.int 2) .nil))) (.var 7)) (.cons (.int 3) .nil))) (.bf .len (.cons (.var 3) .nil))) (.cons (.bf .len (.cons (.var 3) .nil)) (.cons .non .nil)))) .nil)))
  .nil)) b__law_program_10))
theorem b__law_program_cut : b__law_program =
  (.cons (.asg (.nm 1) (.call n__law_cell_at (.cons (.var 0) (.cons (.int 0) .nil))))
  (.cons (.asg (.nm 2) (.bin .add (.int 1) (.bin .mod (.var 1) (.int 4))))
  (.cons (.asg (.nm 3) (.lc (.call n__law_mixed (.cons (.call n__law_cell_at (.cons (.var 0) (.cons (.int 1) .nil))) (.cons (.var 12) .nil))) (.nm 12) (.rng1 (.bin .add (.int 1) (.bin .mod (.bin .fdiv (.var 1) (.int 4)) (.int 3)))) .no))
  (.cons (.asg (.nm 4) (.tup (.cons (.tup (.cons (.str "load") (.cons (.int 1) .nil))) (.cons (.tup (.cons (.str "push") (.cons (.int 0) .nil))) (.cons (.tup (.cons (.str "same") .nil)) (.cons (.tup (.cons (.str "unless") (.cons (.int 2) .nil))) (.cons (.tup (.cons (.str "push") (.cons (.bin .mod (.bin .fdiv (.var 1) (.int 12)) (.int 50)) .nil))) (.cons (.tup (.cons (.str "back") .nil)) (.cons (.tup (.cons (.str "load") (.cons (.int 2) .nil))) .nil)))))))))
  (.cons (.asg (.nm 4) (.bin .add (.var 4) (.tup (.cons (.tup (.cons (.str "load") (.cons (.int 1) .nil))) (.cons (.tup (.cons (.str "call") (.cons (.int 0) (.cons (.int 0) (.cons (.int 2) .nil))))) (.cons (.tup (.cons (.str "keep") (.cons (.int 5) .nil))) (.cons (.tup (.cons (.str "load") (.cons (.int 0) .nil))) (.cons (.tup (.cons (.str "load") (.cons (.int 1) .nil))) (.cons (.tup (.cons (.str "push") (.cons (.int 1) .nil))) (.cons (.tup (.cons (.str "sub") .nil)) .nil))))))))))
  (.cons (.asg (.nm 4) (.bin .add (.var 4) (.tup (.cons (.tup (.cons (.str "load") (.cons (.int 3) .nil))) (.cons (.tup (.cons (.str "load") (.cons (.int 4) .nil))) (.cons (.tup (.cons (.str "load") (.cons (.int 2) .nil))) (.cons (.tup (.cons (.str "call") (.cons (.int 1) (.cons (.int 1) (.cons (.int 5) .nil))))) (.cons (.tup (.cons (.str "load") (.cons (.int 5) .nil))) (.cons (.tup (.cons (.str "add") .nil)) (.cons (.tup (.cons (.str "back") .nil)) .nil))))))))))
  (.cons (.asg (.nm 5) (.bin .add (.lc (.tup (.cons (.int 2) (.cons (.int 2) (.cons (.call n__law_tell_rows (.cons (.var 13) .nil)) .nil)))) (.nm 13) (.seq (.var 3)) .no) (.lst (.cons (.tup (.cons (.int 5) (.cons (.int 6) (.cons (.var 4) .nil)))) .nil)))) b__law_program_8))))))) := rfl

def Pmk (ms : List Int) (whs hms : List Nat) (vls : List Int) (count : Nat) (last : Int) : Pg := ⟨ms.length, whs.length, fun w => (ms.getD w 0 % 3).toNat, fun z => whs.getD z 0, fun j => hms.getD j 0, fun j => vls.getD j 0, count, last⟩
/-- what is told of a program -/
def PQ (h : PH) (Q : KQ) : Prop := ∀ (P : Pg) (h' : PH) (br lr kr hr vr : Nat) (tb : List Nat), P.Ok → Kept h h' → h'[br]? = some (.lst P.code) → h'[lr]? = some (.lst (tb.map .ref)) → tb.length = P.many → (∀ (i t : Nat), tb[i]? = some t → ∃ xs, P.tabs[i]? = some xs ∧ h'[t]? = some (.lst xs)) →
      h'[kr]? = some (.lst ((List.range P.many).map fun z => .int (P.kd (P.wh z)))) → h'[hr]? = some (.lst ((List.range 4).map fun j => .int (P.hm j))) → h'[vr]? = some (.lst ((List.range 4).map fun j => .int (P.vl j))) →
      Q (.tup [.ref br, .ref lr, .ref kr, .ref hr, .ref vr, .int P.count, .int P.last]) h'
def Pg.mrT (P : Pg) : Nat → List PV
  | 0 => [.tup [.str "push", .int (P.vl 0)], .tup [.str "make", .int (P.hm 0), .int 1], .tup [.str "push", .int P.count]]
  | t + 1 => P.mrT t ++ P.pair (t + 1)
theorem mrT_end {P : Pg} : P.mainR = P.mrT 3 ++ [.tup [.str "call", .int 2, .int 1, .int 5], .tup [.str "back"]] := rfl
theorem at4 {f : Nat → PV} {t : Nat} (h : t < 4) : atI ((List.range 4).map f) (t : Int) = some (f t) := by
  rw [atI_nat, List.getElem?_map, List.getElem?_range h]; rfl
theorem list4 {α : Type} {l : List α} (h : l.length = 4) : ∃ a b c d, l = [a, b, c, d] := by
  match l, h with
  | [a, b, c, d], _ => exact ⟨a, b, c, d, rfl⟩
theorem nats_of {vs : List PV} {p : Nat → Prop} (h : ∀ v ∈ vs, ∃ m : Nat, v = .int m ∧ p m) : ∃ ms : List Nat, vs = ms.map (fun m => .int (m : Nat)) ∧ ∀ m ∈ ms, p m := by
  induction vs with
  | nil => exact ⟨[], rfl, by simp⟩
  | cons x r ih =>
    obtain ⟨ms, e, hm⟩ := ih fun v hv => h v (List.mem_cons_of_mem _ hv)
    obtain ⟨m, e2, pm⟩ := h x (List.mem_cons_self ..)
    refine ⟨m :: ms, by rw [e, e2]; rfl, fun z hz => ?_⟩
    rcases List.mem_cons.mp hz with rfl | hz
    · exact pm
    · exact hm z hz
theorem getD_lt {l : List Nat} {n i : Nat} (h : ∀ w ∈ l, w < n) (hn : 0 < n) : l.getD i 0 < n := by
  rw [List.getD_eq_getElem?_getD]
  cases q : l[i]? with
  | none => exact hn
  | some w => exact h w (List.mem_of_getElem? q)
theorem getD_in {l : List Int} {i : Nat} (h : ∀ w ∈ l, -500 ≤ w ∧ w ≤ 500) : -500 ≤ l.getD i 0 ∧ l.getD i 0 ≤ 500 := by
  rw [List.getD_eq_getElem?_getD]
  cases q : l[i]? with
  | none => show -500 ≤ (0 : Int) ∧ (0 : Int) ≤ 500; omega
  | some w => exact h w (List.mem_of_getElem? q)
theorem at40 {f : Nat → PV} : atI ((List.range 4).map f) (0 : Int) = some (f 0) := at4 (t := 0) (by omega)
section
variable {k : Nat} {h0 h : PH} {D : En} {ms : List Int} {whs hms : List Nat} {vls : List Int} {count : Nat} {c0 : Int} {wr br lr hr vr : Nat} {tb : List Nat} {g4 : PV} {a6 a7 a8 a9 a10 a11 a12 a13 a14 : Option PV}
theorem prog16 (hk : Kept h0 h) (q : PQ h0 D.rt) (ok : (Pmk ms whs hms vls count (c0 / 12 % 50)).Ok) (hm : ∀ m ∈ ms, 0 ≤ m) (eb : h[br]? = some (.lst (Pmk ms whs hms vls count (c0 / 12 % 50)).code)) (ew : h[wr]? = some (.lst (ms.map PV.int))) (el : h[lr]? = some (.lst (tb.map .ref))) (etl : tb.length = whs.length) (et : ∀ (i t : Nat), tb[i]? = some t → h[t]? = some (.lst [.int (whs.getD i 0 : Nat), .int ms.length, .non]))
    (eh : h[hr]? = some (.lst ((List.range 4).map fun j => .int (hms.getD j 0 : Nat)))) (ev : h[vr]? = some (.lst ((List.range 4).map fun j => .int (vls.getD j 0)))) :
    evB sgT (callS sgT (k + 1)) b__law_program_16 [some (.ref 0), some (.int c0), some (.int whs.length), some (.ref wr), some g4, some (.ref br), some (.ref lr), a7, some (.ref hr), some (.ref vr), some (.int count), a11, a12, a13, a14] h D := by
  simp only [evB, evS, evE, evEs, evO, evC, evT, evG, evGs, bAdd, bAddT, bSub, bMulL, bMulR, bDivL, bModL, cLt, cLe, cGt, cGe, cIs, cNot, iT0, iT1, fMin, fMax, fAbs, fLenT, tyT, tyI, tyB, tyS, truB, truI, ex_int, ex_bl, ex_tup, ex_some, ex_cons, eq_self, ex_var, eq_int, ne_int, eq_lit, ne_lit, startL, List.map_cons, List.map_nil, List.cons_append, List.nil_append, List.length_cons, List.length_nil, List.replicate, List.getElem?_cons_zero, List.getElem?_cons_succ, List.set_cons_zero, List.set_cons_succ, lenTs, Int.reduceToNat, Int.reducePow, Int.reduceSub, Int.reduceAdd, Int.reduceMul, Int.reduceNeg, Int.reduceLT, Int.reduceLE, Int.reduceEq, Nat.reduceLT, Nat.reduceLeDiff, Nat.reduceAdd, Nat.reduceSub, Nat.reducePow, bPowL, SZ, tyOf, evI, items_ref, items_tup, live_ref, live_tup, lstOf_new, true_and, and_true, ne_eq, not_true_eq_false, not_false_eq_true, Int.cast_ofNat_Int, decide_eq_true_eq, if_true, if_false, ite_true, ite_false, List.nil_append, isB, String.reduceBEq, String.reduceEq, decide_true, decide_false, Bool.false_eq_true, Bool.or_false, Bool.and_false, Bool.or_true, Bool.and_true, Bool.true_and, Bool.false_and, Bool.not_true, Bool.not_false, ite_true, ite_false, reduceIte, Bool.true_or, Bool.false_or, gt_iff_lt, ge_iff_le, iM1, iM1', iM2, cut_last, cut_last2, slT, fTupL, fTupT, fListL, fInt, fIntB, wipe0, wipe1, tNs, tsNs, inT, isBl, notBl, List.all_cons, List.all_nil, List.any_cons, List.any_nil, flP, eqP, isBlB, notRef, lit_beq, List.append_nil, List.not_mem_nil, isNonB, Int.neg_neg, Int.reduceNegSucc, b__law_program_16]
  refine ⟨_, lst_got el, ?_⟩
  refine comp_ix rfl (fun h' hk => lstOf_kept hk (lst_got el)) (fun i => .int (ms.getD (whs.getD i 0) 0 % 3)) _ 0 [] _ (fun i x hx h' K hk' hK => ?_) Kept.app get_new (by have := ok.m1; simp [etl]; show whs.length < 1000; have : whs.length ≤ 4 := this; omega) fun h2 hk2 e2 => ?_
  · rw [List.getElem?_map] at hx
    obtain ⟨t, em, rfl⟩ := Option.map_eq_some_iff.mp hx
    have e1 := lst_got (hk' _ _ (et i t em))
    rw [iLat e1 (show atI [PV.int (whs.getD i 0 : Nat), .int ms.length, .non] 0 = some (.int (whs.getD i 0 : Nat)) from rfl)]
    have hw : whs.getD i 0 < ms.length := ok.wh i
    have e3 : atI (ms.map PV.int) ((whs.getD i 0 : Nat) : Int) = some (.int (ms.getD (whs.getD i 0) 0)) := by
      generalize whs.getD i 0 = w at hw
      rw [atI_nat, List.getElem?_map, List.getD_eq_getElem?_getD, List.getElem?_eq_getElem hw]; rfl
    rw [iLat (lst_got (hk' _ _ ew)) e3]
    have := hK []
    rw [List.append_nil, Nat.zero_add] at this
    simp only [evB, evS, evE, evEs, evO, evC, evT, evG, evGs, bAdd, bAddT, bSub, bMulL, bMulR, bDivL, bModL, cLt, cLe, cGt, cGe, cIs, cNot, iT0, iT1, fMin, fMax, fAbs, fLenT, tyT, tyI, tyB, tyS, truB, truI, ex_int, ex_bl, ex_tup, ex_some, ex_cons, eq_self, ex_var, eq_int, ne_int, eq_lit, ne_lit, startL, List.map_cons, List.map_nil, List.cons_append, List.nil_append, List.length_cons, List.length_nil, List.replicate, List.getElem?_cons_zero, List.getElem?_cons_succ, List.set_cons_zero, List.set_cons_succ, lenTs, Int.reduceToNat, Int.reducePow, Int.reduceSub, Int.reduceAdd, Int.reduceMul, Int.reduceNeg, Int.reduceLT, Int.reduceLE, Int.reduceEq, Nat.reduceLT, Nat.reduceLeDiff, Nat.reduceAdd, Nat.reduceSub, Nat.reducePow, bPowL, SZ, tyOf, evI, items_ref, items_tup, live_ref, live_tup, lstOf_new, true_and, and_true, ne_eq, not_true_eq_false, not_false_eq_true, Int.cast_ofNat_Int, decide_eq_true_eq, if_true, if_false, ite_true, ite_false, List.nil_append, isB, String.reduceBEq, String.reduceEq, decide_true, decide_false, Bool.false_eq_true, Bool.or_false, Bool.and_false, Bool.or_true, Bool.and_true, Bool.true_and, Bool.false_and, Bool.not_true, Bool.not_false, ite_true, ite_false, reduceIte, Bool.true_or, Bool.false_or, gt_iff_lt, ge_iff_le, iM1, iM1', iM2, cut_last, cut_last2, slT, fTupL, fTupT, fListL, fInt, fIntB, wipe0, wipe1, tNs, tsNs, inT, isBl, notBl, List.all_cons, List.all_nil, List.any_cons, List.any_nil, flP, eqP, isBlB, notRef, lit_beq, List.append_nil, List.not_mem_nil, isNonB, Int.neg_neg, Int.reduceNegSucc]
    exact this
  · rw [List.nil_append, List.length_map, etl] at e2
    refine q (Pmk ms whs hms vls count (c0 / 12 % 50)) h2 br lr h.length hr vr tb ok (hk.trans hk2) (hk2 _ _ eb) (hk2 _ _ el) etl (fun i t e => ?_) ?_ (hk2 _ _ eh) (hk2 _ _ ev)
    · have hi : i < whs.length := by rw [← etl]; exact (List.getElem?_eq_some_iff.mp e).1
      refine ⟨_, ?_, hk2 _ _ (et i t e)⟩
      show ((List.range whs.length).map _)[i]? = _
      rw [List.getElem?_map, List.getElem?_range hi]; rfl
    · rw [e2]
      congr 2
      refine List.map_congr_left fun z hz => ?_
      show PV.int (ms.getD (whs.getD (0 + z) 0) 0 % 3) = .int ((ms.getD (whs.getD z 0) 0 % 3).toNat : Nat)
      rw [Nat.zero_add]
      congr 1
      omega
theorem prog13 (hk : Kept h0 h) (q : PQ h0 D.rt) (ok : (Pmk ms whs hms vls count (c0 / 12 % 50)).Ok) (hm : ∀ m ∈ ms, 0 ≤ m) (eb : h[br]? = some (.lst ((List.range ms.length).map (fun i => tellB (ms.getD i 0 % 3).toNat) ++ [goB (c0 / 12 % 50)]))) (ew : h[wr]? = some (.lst (ms.map PV.int))) (el : h[lr]? = some (.lst (tb.map .ref))) (etl : tb.length = whs.length) (et : ∀ (i t : Nat), tb[i]? = some t → h[t]? = some (.lst [.int (whs.getD i 0 : Nat), .int ms.length, .non]))
    (eh : h[hr]? = some (.lst ((List.range 4).map fun j => .int (hms.getD j 0 : Nat)))) (ev : h[vr]? = some (.lst ((List.range 4).map fun j => .int (vls.getD j 0)))) (hbr : h0.length ≤ br) (n1 : wr ≠ br) (n2 : lr ≠ br) (n3 : hr ≠ br) (n4 : vr ≠ br) (n5 : ∀ t ∈ tb, t ≠ br) :
    evB sgT (callS sgT (k + 1)) b__law_program_13 [some (.ref 0), some (.int c0), some (.int whs.length), some (.ref wr), some g4, some (.ref br), some (.ref lr), a7, some (.ref hr), some (.ref vr), some (.int count), a11, a12, a13, a14] h D := by
  simp only [evB, evS, evE, evEs, evO, evC, evT, evG, evGs, bAdd, bAddT, bSub, bMulL, bMulR, bDivL, bModL, cLt, cLe, cGt, cGe, cIs, cNot, iT0, iT1, fMin, fMax, fAbs, fLenT, tyT, tyI, tyB, tyS, truB, truI, ex_int, ex_bl, ex_tup, ex_some, ex_cons, eq_self, ex_var, eq_int, ne_int, eq_lit, ne_lit, startL, List.map_cons, List.map_nil, List.cons_append, List.nil_append, List.length_cons, List.length_nil, List.replicate, List.getElem?_cons_zero, List.getElem?_cons_succ, List.set_cons_zero, List.set_cons_succ, lenTs, Int.reduceToNat, Int.reducePow, Int.reduceSub, Int.reduceAdd, Int.reduceMul, Int.reduceNeg, Int.reduceLT, Int.reduceLE, Int.reduceEq, Nat.reduceLT, Nat.reduceLeDiff, Nat.reduceAdd, Nat.reduceSub, Nat.reducePow, bPowL, SZ, tyOf, evI, items_ref, items_tup, live_ref, live_tup, lstOf_new, true_and, and_true, ne_eq, not_true_eq_false, not_false_eq_true, Int.cast_ofNat_Int, decide_eq_true_eq, if_true, if_false, ite_true, ite_false, List.nil_append, isB, String.reduceBEq, String.reduceEq, decide_true, decide_false, Bool.false_eq_true, Bool.or_false, Bool.and_false, Bool.or_true, Bool.and_true, Bool.true_and, Bool.false_and, Bool.not_true, Bool.not_false, ite_true, ite_false, reduceIte, Bool.true_or, Bool.false_or, gt_iff_lt, ge_iff_le, iM1, iM1', iM2, cut_last, cut_last2, slT, fTupL, fTupT, fListL, fInt, fIntB, wipe0, wipe1, tNs, tsNs, inT, isBl, notBl, List.all_cons, List.all_nil, List.any_cons, List.any_nil, flP, eqP, isBlB, notRef, lit_beq, List.append_nil, List.not_mem_nil, isNonB, Int.neg_neg, Int.reduceNegSucc, b__law_program_13]
  rw [iLat (lst_got ev) at40, iLat (lst_got eh) at40]
  have hbr1 := (List.getElem?_eq_some_iff.mp eb).1
  refine ⟨_, _, rfl, rfl, ⟨by omega, by omega, by omega, by omega⟩, ?_⟩
  refine iter_invN (fun t l h' => (∃ a12, l = [some (PV.ref 0), some (PV.int c0), some (PV.int ↑whs.length), some (PV.ref wr), some g4, some (PV.ref br), some (PV.ref lr), a7, some (PV.ref hr), some (PV.ref vr), some (PV.int ↑count), some (PV.ref h.length), a12, a13, a14]) ∧ Kept h h' ∧ h'[h.length]? = some (.lst ((Pmk ms whs hms vls count (c0 / 12 % 50)).mrT t)))
    (fun _ _ _ _ => trivial) _ 0 (fun t x hx l h2 K iv hK => ?_) (fun l h2 iv => ?_) _ _ ⟨⟨_, rfl⟩, Kept.app, get_new⟩
  · obtain ⟨⟨a12, rfl⟩, hk2, e2⟩ := iv
    obtain ⟨ht, rfl⟩ := range_at hx
    have ht3 : t < 3 := ht
    rw [Nat.zero_add] at e2
    simp only [evB, evS, evE, evEs, evO, evC, evT, evG, evGs, bAdd, bAddT, bSub, bMulL, bMulR, bDivL, bModL, cLt, cLe, cGt, cGe, cIs, cNot, iT0, iT1, fMin, fMax, fAbs, fLenT, tyT, tyI, tyB, tyS, truB, truI, ex_int, ex_bl, ex_tup, ex_some, ex_cons, eq_self, ex_var, eq_int, ne_int, eq_lit, ne_lit, startL, List.map_cons, List.map_nil, List.cons_append, List.nil_append, List.length_cons, List.length_nil, List.replicate, List.getElem?_cons_zero, List.getElem?_cons_succ, List.set_cons_zero, List.set_cons_succ, lenTs, Int.reduceToNat, Int.reducePow, Int.reduceSub, Int.reduceAdd, Int.reduceMul, Int.reduceNeg, Int.reduceLT, Int.reduceLE, Int.reduceEq, Nat.reduceLT, Nat.reduceLeDiff, Nat.reduceAdd, Nat.reduceSub, Nat.reducePow, bPowL, SZ, tyOf, evI, items_ref, items_tup, live_ref, live_tup, lstOf_new, true_and, and_true, ne_eq, not_true_eq_false, not_false_eq_true, Int.cast_ofNat_Int, decide_eq_true_eq, if_true, if_false, ite_true, ite_false, List.nil_append, isB, String.reduceBEq, String.reduceEq, decide_true, decide_false, Bool.false_eq_true, Bool.or_false, Bool.and_false, Bool.or_true, Bool.and_true, Bool.true_and, Bool.false_and, Bool.not_true, Bool.not_false, ite_true, ite_false, reduceIte, Bool.true_or, Bool.false_or, gt_iff_lt, ge_iff_le, iM1, iM1', iM2, cut_last, cut_last2, slT, fTupL, fTupT, fListL, fInt, fIntB, wipe0, wipe1, tNs, tsNs, inT, isBl, notBl, List.all_cons, List.all_nil, List.any_cons, List.any_nil, flP, eqP, isBlB, notRef, lit_beq, List.append_nil, List.not_mem_nil, isNonB, Int.neg_neg, Int.reduceNegSucc]
    refine ⟨ty_get e2, ?_⟩
    have e1 : (1 : Int) + (t : Int) = ((t + 1 : Nat) : Int) := by omega
    rw [e1, iLat (lst_got (hk2 _ _ ev)) (at4 (t := t + 1) (by omega)), iLat (lst_got (hk2 _ _ eh)) (at4 (t := t + 1) (by omega))]
    have hl : ((Pmk ms whs hms vls count (c0 / 12 % 50)).mrT t).length ≤ 100 := by
      have : t = 0 ∨ t = 1 ∨ t = 2 := by omega
      rcases this with rfl | rfl | rfl <;> simp [Pg.mrT, Pg.pair]
    refine ⟨_, _, get_app e2, get_new, by show _ ≤ 16777216; simp; omega, ?_⟩
    refine hK _ _ ⟨⟨_, rfl⟩, (hk2.trans Kept.app).set (Nat.le_refl _), ?_⟩
    rw [List.getElem?_set_self (by have := (List.getElem?_eq_some_iff.mp e2).1; simp; omega), Nat.zero_add]; rfl
  · obtain ⟨⟨a12, rfl⟩, hk2, e2⟩ := iv
    rw [Nat.zero_add, range_len] at e2
    have e2 : h2[h.length]? = some (.lst ((Pmk ms whs hms vls count (c0 / 12 % 50)).mrT 3)) := e2
    simp only [evB, evS, evE, evEs, evO, evC, evT, evG, evGs, bAdd, bAddT, bSub, bMulL, bMulR, bDivL, bModL, cLt, cLe, cGt, cGe, cIs, cNot, iT0, iT1, fMin, fMax, fAbs, fLenT, tyT, tyI, tyB, tyS, truB, truI, ex_int, ex_bl, ex_tup, ex_some, ex_cons, eq_self, ex_var, eq_int, ne_int, eq_lit, ne_lit, startL, List.map_cons, List.map_nil, List.cons_append, List.nil_append, List.length_cons, List.length_nil, List.replicate, List.getElem?_cons_zero, List.getElem?_cons_succ, List.set_cons_zero, List.set_cons_succ, lenTs, Int.reduceToNat, Int.reducePow, Int.reduceSub, Int.reduceAdd, Int.reduceMul, Int.reduceNeg, Int.reduceLT, Int.reduceLE, Int.reduceEq, Nat.reduceLT, Nat.reduceLeDiff, Nat.reduceAdd, Nat.reduceSub, Nat.reducePow, bPowL, SZ, tyOf, evI, items_ref, items_tup, live_ref, live_tup, lstOf_new, true_and, and_true, ne_eq, not_true_eq_false, not_false_eq_true, Int.cast_ofNat_Int, decide_eq_true_eq, if_true, if_false, ite_true, ite_false, List.nil_append, isB, String.reduceBEq, String.reduceEq, decide_true, decide_false, Bool.false_eq_true, Bool.or_false, Bool.and_false, Bool.or_true, Bool.and_true, Bool.true_and, Bool.false_and, Bool.not_true, Bool.not_false, ite_true, ite_false, reduceIte, Bool.true_or, Bool.false_or, gt_iff_lt, ge_iff_le, iM1, iM1', iM2, cut_last, cut_last2, slT, fTupL, fTupT, fListL, fInt, fIntB, wipe0, wipe1, tNs, tsNs, inT, isBl, notBl, List.all_cons, List.all_nil, List.any_cons, List.any_nil, flP, eqP, isBlB, notRef, lit_beq, List.append_nil, List.not_mem_nil, isNonB, Int.neg_neg, Int.reduceNegSucc]
    refine ⟨ty_get (hk2 _ _ eb), ?_⟩
    rw [bAddL]
    refine ⟨_, _, get_app e2, get_new, by show _ ≤ 16777216; simp [Pg.mrT, Pg.pair], ?_⟩
    rw [fTupL]
    refine ⟨_, lstOf_new, ?_⟩
    rw [mApp]
    have eb2 := get_app (t := [PO.lst ((Pmk ms whs hms vls count (c0 / 12 % 50)).mrT 3 ++ [PV.tup [PV.str (Str.ofString "call"), PV.int 2, PV.int 1, PV.int 5], PV.tup [PV.str (Str.ofString "back")]])]) (get_app (t := [PO.lst [PV.tup [PV.str (Str.ofString "call"), PV.int 2, PV.int 1, PV.int 5], PV.tup [PV.str (Str.ofString "back")]]]) (hk2 _ _ eb))
    have hW : ms.length ≤ 3 := ok.w1
    refine ⟨_, eb2, by show _ < 16777216; simp; omega, ?_⟩
    have hk3 : Kept h (h2 ++ [PO.lst [PV.tup [PV.str (Str.ofString "call"), PV.int 2, PV.int 1, PV.int 5], PV.tup [PV.str (Str.ofString "back")]]] ++ [PO.lst ((Pmk ms whs hms vls count (c0 / 12 % 50)).mrT 3 ++ [PV.tup [PV.str (Str.ofString "call"), PV.int 2, PV.int 1, PV.int 5], PV.tup [PV.str (Str.ofString "back")]])]) := hk2.trans (Kept.app.trans Kept.app)
    generalize h2 ++ [PO.lst [PV.tup [PV.str (Str.ofString "call"), PV.int 2, PV.int 1, PV.int 5], PV.tup [PV.str (Str.ofString "back")]]] ++ [PO.lst ((Pmk ms whs hms vls count (c0 / 12 % 50)).mrT 3 ++ [PV.tup [PV.str (Str.ofString "call"), PV.int 2, PV.int 1, PV.int 5], PV.tup [PV.str (Str.ofString "back")]])] = h3 at eb2 hk3 ⊢
    refine prog16 ((hk.trans hk3).set hbr) q ok hm ?_ (get_set_ne (hk3 _ _ ew) n1) (get_set_ne (hk3 _ _ el) n2) etl (fun i t e => get_set_ne (hk3 _ _ (et i t e)) (n5 t (List.mem_of_getElem? e))) (get_set_ne (hk3 _ _ eh) n3) (get_set_ne (hk3 _ _ ev) n4)
    rw [List.getElem?_set_self (List.getElem?_eq_some_iff.mp eb2).1, ← mrT_end]; rfl
theorem prog11 {ns : List Int} (hs : lstOf h0 (.ref 0) = some (ns.map PV.int)) (hk : Kept h0 h) (q : PQ h0 D.rt) (ok : ∀ vls count, vls.length = 4 → (∀ v ∈ vls, -500 ≤ v ∧ v ≤ 500) → count ≤ 45 → (Pmk ms whs hms vls count (c0 / 12 % 50)).Ok) (hm : ∀ m ∈ ms, 0 ≤ m) (eb : h[br]? = some (.lst ((List.range ms.length).map (fun i => tellB (ms.getD i 0 % 3).toNat) ++ [goB (c0 / 12 % 50)]))) (ew : h[wr]? = some (.lst (ms.map PV.int))) (el : h[lr]? = some (.lst (tb.map .ref))) (etl : tb.length = whs.length) (et : ∀ (i t : Nat), tb[i]? = some t → h[t]? = some (.lst [.int (whs.getD i 0 : Nat), .int ms.length, .non]))
    (eh : h[hr]? = some (.lst ((List.range 4).map fun j => .int (hms.getD j 0 : Nat)))) (hbr : h0.length ≤ br) (n1 : wr ≠ br) (n2 : lr ≠ br) (n3 : hr ≠ br) (n5 : ∀ t ∈ tb, t ≠ br) :
    evB sgT (callS sgT (k + 1)) b__law_program_11 [some (.ref 0), some (.int c0), some (.int whs.length), some (.ref wr), some g4, some (.ref br), some (.ref lr), a7, some (.ref hr), a9, a10, a11, a12, a13, a14] h D := by
  simp only [evB, evS, evE, evEs, evO, evC, evT, evG, evGs, bAdd, bAddT, bSub, bMulL, bMulR, bDivL, bModL, cLt, cLe, cGt, cGe, cIs, cNot, iT0, iT1, fMin, fMax, fAbs, fLenT, tyT, tyI, tyB, tyS, truB, truI, ex_int, ex_bl, ex_tup, ex_some, ex_cons, eq_self, ex_var, eq_int, ne_int, eq_lit, ne_lit, startL, List.map_cons, List.map_nil, List.cons_append, List.nil_append, List.length_cons, List.length_nil, List.replicate, List.getElem?_cons_zero, List.getElem?_cons_succ, List.set_cons_zero, List.set_cons_succ, lenTs, Int.reduceToNat, Int.reducePow, Int.reduceSub, Int.reduceAdd, Int.reduceMul, Int.reduceNeg, Int.reduceLT, Int.reduceLE, Int.reduceEq, Nat.reduceLT, Nat.reduceLeDiff, Nat.reduceAdd, Nat.reduceSub, Nat.reducePow, bPowL, SZ, tyOf, evI, items_ref, items_tup, live_ref, live_tup, lstOf_new, true_and, and_true, ne_eq, not_true_eq_false, not_false_eq_true, Int.cast_ofNat_Int, decide_eq_true_eq, if_true, if_false, ite_true, ite_false, List.nil_append, isB, String.reduceBEq, String.reduceEq, decide_true, decide_false, Bool.false_eq_true, Bool.or_false, Bool.and_false, Bool.or_true, Bool.and_true, Bool.true_and, Bool.false_and, Bool.not_true, Bool.not_false, ite_true, ite_false, reduceIte, Bool.true_or, Bool.false_or, gt_iff_lt, ge_iff_le, iM1, iM1', iM2, cut_last, cut_last2, slT, fTupL, fTupT, fListL, fInt, fIntB, wipe0, wipe1, tNs, tsNs, inT, isBl, notBl, List.all_cons, List.all_nil, List.any_cons, List.any_nil, flP, eqP, isBlB, notRef, lit_beq, List.append_nil, List.not_mem_nil, isNonB, Int.neg_neg, Int.reduceNegSucc, b__law_program_11]
  have hbr1 := (List.getElem?_eq_some_iff.mp eb).1
  refine comp_all (fun v => ∃ m : Int, v = .int m ∧ -500 ≤ m ∧ m ≤ 500) (fun _ => trivial) _ [] (fun x hx acc K hK => ?_) (fun _ h => by cases h) (by show _ ≤ 16777216; simp [rangeL]) fun vs hvl hv => ?_
  · obtain ⟨j, hj, rfl⟩ := mem_range hx
    refine s_cell (lstOf_kept (hk.trans Kept.app) hs) (by omega) ?_
    simp only [evB, evS, evE, evEs, evO, evC, evT, evG, evGs, bAdd, bAddT, bSub, bMulL, bMulR, bDivL, bModL, cLt, cLe, cGt, cGe, cIs, cNot, iT0, iT1, fMin, fMax, fAbs, fLenT, tyT, tyI, tyB, tyS, truB, truI, ex_int, ex_bl, ex_tup, ex_some, ex_cons, eq_self, ex_var, eq_int, ne_int, eq_lit, ne_lit, startL, List.map_cons, List.map_nil, List.cons_append, List.nil_append, List.length_cons, List.length_nil, List.replicate, List.getElem?_cons_zero, List.getElem?_cons_succ, List.set_cons_zero, List.set_cons_succ, lenTs, Int.reduceToNat, Int.reducePow, Int.reduceSub, Int.reduceAdd, Int.reduceMul, Int.reduceNeg, Int.reduceLT, Int.reduceLE, Int.reduceEq, Nat.reduceLT, Nat.reduceLeDiff, Nat.reduceAdd, Nat.reduceSub, Nat.reducePow, bPowL, SZ, tyOf, evI, items_ref, items_tup, live_ref, live_tup, lstOf_new, true_and, and_true, ne_eq, not_true_eq_false, not_false_eq_true, Int.cast_ofNat_Int, decide_eq_true_eq, if_true, if_false, ite_true, ite_false, List.nil_append, isB, String.reduceBEq, String.reduceEq, decide_true, decide_false, Bool.false_eq_true, Bool.or_false, Bool.and_false, Bool.or_true, Bool.and_true, Bool.true_and, Bool.false_and, Bool.not_true, Bool.not_false, ite_true, ite_false, reduceIte, Bool.true_or, Bool.false_or, gt_iff_lt, ge_iff_le, iM1, iM1', iM2, cut_last, cut_last2, slT, fTupL, fTupT, fListL, fInt, fIntB, wipe0, wipe1, tNs, tsNs, inT, isBl, notBl, List.all_cons, List.all_nil, List.any_cons, List.any_nil, flP, eqP, isBlB, notRef, lit_beq, List.append_nil, List.not_mem_nil, isNonB, Int.neg_neg, Int.reduceNegSucc]
    have hj4 : j < 4 := hj
    rw [bDivL (by omega) (by omega)]
    simp only [evB, evS, evE, evEs, evO, evC, evT, evG, evGs, bAdd, bAddT, bSub, bMulL, bMulR, bDivL, bModL, cLt, cLe, cGt, cGe, cIs, cNot, iT0, iT1, fMin, fMax, fAbs, fLenT, tyT, tyI, tyB, tyS, truB, truI, ex_int, ex_bl, ex_tup, ex_some, ex_cons, eq_self, ex_var, eq_int, ne_int, eq_lit, ne_lit, startL, List.map_cons, List.map_nil, List.cons_append, List.nil_append, List.length_cons, List.length_nil, List.replicate, List.getElem?_cons_zero, List.getElem?_cons_succ, List.set_cons_zero, List.set_cons_succ, lenTs, Int.reduceToNat, Int.reducePow, Int.reduceSub, Int.reduceAdd, Int.reduceMul, Int.reduceNeg, Int.reduceLT, Int.reduceLE, Int.reduceEq, Nat.reduceLT, Nat.reduceLeDiff, Nat.reduceAdd, Nat.reduceSub, Nat.reducePow, bPowL, SZ, tyOf, evI, items_ref, items_tup, live_ref, live_tup, lstOf_new, true_and, and_true, ne_eq, not_true_eq_false, not_false_eq_true, Int.cast_ofNat_Int, decide_eq_true_eq, if_true, if_false, ite_true, ite_false, List.nil_append, isB, String.reduceBEq, String.reduceEq, decide_true, decide_false, Bool.false_eq_true, Bool.or_false, Bool.and_false, Bool.or_true, Bool.and_true, Bool.true_and, Bool.false_and, Bool.not_true, Bool.not_false, ite_true, ite_false, reduceIte, Bool.true_or, Bool.false_or, gt_iff_lt, ge_iff_le, iM1, iM1', iM2, cut_last, cut_last2, slT, fTupL, fTupT, fListL, fInt, fIntB, wipe0, wipe1, tNs, tsNs, inT, isBl, notBl, List.all_cons, List.all_nil, List.any_cons, List.any_nil, flP, eqP, isBlB, notRef, lit_beq, List.append_nil, List.not_mem_nil, isNonB, Int.neg_neg, Int.reduceNegSucc]
    exact hK _ ⟨_, rfl, by omega, by omega⟩
  obtain ⟨vls, rfl, hvv⟩ := ints_of hv
  have hvl4 : vls.length = 4 := by simpa [rangeL] using hvl
  have hk1 : Kept h0 (h ++ [PO.lst (vls.map PV.int)]) := hk.trans Kept.app
  refine s_cell (lstOf_kept hk1 hs) (by omega) ?_
  simp only [evB, evS, evE, evEs, evO, evC, evT, evG, evGs, bAdd, bAddT, bSub, bMulL, bMulR, bDivL, bModL, cLt, cLe, cGt, cGe, cIs, cNot, iT0, iT1, fMin, fMax, fAbs, fLenT, tyT, tyI, tyB, tyS, truB, truI, ex_int, ex_bl, ex_tup, ex_some, ex_cons, eq_self, ex_var, eq_int, ne_int, eq_lit, ne_lit, startL, List.map_cons, List.map_nil, List.cons_append, List.nil_append, List.length_cons, List.length_nil, List.replicate, List.getElem?_cons_zero, List.getElem?_cons_succ, List.set_cons_zero, List.set_cons_succ, lenTs, Int.reduceToNat, Int.reducePow, Int.reduceSub, Int.reduceAdd, Int.reduceMul, Int.reduceNeg, Int.reduceLT, Int.reduceLE, Int.reduceEq, Nat.reduceLT, Nat.reduceLeDiff, Nat.reduceAdd, Nat.reduceSub, Nat.reducePow, bPowL, SZ, tyOf, evI, items_ref, items_tup, live_ref, live_tup, lstOf_new, true_and, and_true, ne_eq, not_true_eq_false, not_false_eq_true, Int.cast_ofNat_Int, decide_eq_true_eq, if_true, if_false, ite_true, ite_false, List.nil_append, isB, String.reduceBEq, String.reduceEq, decide_true, decide_false, Bool.false_eq_true, Bool.or_false, Bool.and_false, Bool.or_true, Bool.and_true, Bool.true_and, Bool.false_and, Bool.not_true, Bool.not_false, ite_true, ite_false, reduceIte, Bool.true_or, Bool.false_or, gt_iff_lt, ge_iff_le, iM1, iM1', iM2, cut_last, cut_last2, slT, fTupL, fTupT, fListL, fInt, fIntB, wipe0, wipe1, tNs, tsNs, inT, isBl, notBl, List.all_cons, List.all_nil, List.any_cons, List.any_nil, flP, eqP, isBlB, notRef, lit_beq, List.append_nil, List.not_mem_nil, isNonB, Int.neg_neg, Int.reduceNegSucc]
  refine s_cell (lstOf_kept (hk1.trans Kept.app) hs) (by omega) ?_
  simp only [evB, evS, evE, evEs, evO, evC, evT, evG, evGs, bAdd, bAddT, bSub, bMulL, bMulR, bDivL, bModL, cLt, cLe, cGt, cGe, cIs, cNot, iT0, iT1, fMin, fMax, fAbs, fLenT, tyT, tyI, tyB, tyS, truB, truI, ex_int, ex_bl, ex_tup, ex_some, ex_cons, eq_self, ex_var, eq_int, ne_int, eq_lit, ne_lit, startL, List.map_cons, List.map_nil, List.cons_append, List.nil_append, List.length_cons, List.length_nil, List.replicate, List.getElem?_cons_zero, List.getElem?_cons_succ, List.set_cons_zero, List.set_cons_succ, lenTs, Int.reduceToNat, Int.reducePow, Int.reduceSub, Int.reduceAdd, Int.reduceMul, Int.reduceNeg, Int.reduceLT, Int.reduceLE, Int.reduceEq, Nat.reduceLT, Nat.reduceLeDiff, Nat.reduceAdd, Nat.reduceSub, Nat.reducePow, bPowL, SZ, tyOf, evI, items_ref, items_tup, live_ref, live_tup, lstOf_new, true_and, and_true, ne_eq, not_true_eq_false, not_false_eq_true, Int.cast_ofNat_Int, decide_eq_true_eq, if_true, if_false, ite_true, ite_false, List.nil_append, isB, String.reduceBEq, String.reduceEq, decide_true, decide_false, Bool.false_eq_true, Bool.or_false, Bool.and_false, Bool.or_true, Bool.and_true, Bool.true_and, Bool.false_and, Bool.not_true, Bool.not_false, ite_true, ite_false, reduceIte, Bool.true_or, Bool.false_or, gt_iff_lt, ge_iff_le, iM1, iM1', iM2, cut_last, cut_last2, slT, fTupL, fTupT, fListL, fInt, fIntB, wipe0, wipe1, tNs, tsNs, inT, isBl, notBl, List.all_cons, List.all_nil, List.any_cons, List.any_nil, flP, eqP, isBlB, notRef, lit_beq, List.append_nil, List.not_mem_nil, isNonB, Int.neg_neg, Int.reduceNegSucc]
  have e4 : vls.map PV.int = (List.range 4).map fun j => .int (vls.getD j 0) := by
    obtain ⟨a, b, c, d, rfl⟩ := list4 hvl4
    rfl
  have ev := get_new (h := h) (o := PO.lst (vls.map PV.int))
  rw [e4] at ev
  have hlt : br < h.length := hbr1
  have fin : ∀ (c : Nat), c ≤ 45 → evB sgT (callS sgT (k + 1)) b__law_program_13 [some (PV.ref 0), some (PV.int c0), some (PV.int ↑whs.length), some (PV.ref wr), some g4, some (PV.ref br), some (PV.ref lr), a7, some (PV.ref hr), some (PV.ref h.length), some (.int c), a11, a12, a13, a14] (h ++ [PO.lst (List.map PV.int vls)] ++ [PO.lst [PV.int 13, PV.int 46]]) D := fun c hc => by
    rw [e4]
    refine prog13 ((hk.trans Kept.app).trans Kept.app) q (ok vls c hvl4 hvv hc) hm (get_app (get_app eb)) (get_app (get_app ew)) (get_app (get_app el)) etl (fun i t e => get_app (get_app (et i t e))) (get_app (get_app eh)) (get_app ev) hbr n1 n2 n3 (by omega) n5
  by_cases h3 : ns.getD 5 0 % 8 = 3
  · rw [if_pos h3, iLat (lst_got get_new) (show atI [PV.int 13, PV.int 46] 1 = some (.int 46) from rfl), bModL (by omega)]
    have e : ns.getD 5 0 / 8 % 46 = ((ns.getD 5 0 / 8 % 46).toNat : Nat) := by omega
    rw [e]
    exact fin _ (by omega)
  · rw [if_neg h3, iLat (lst_got get_new) (show atI [PV.int 13, PV.int 46] 0 = some (.int 13) from rfl), bModL (by omega)]
    have e : ns.getD 5 0 / 8 % 13 = ((ns.getD 5 0 / 8 % 13).toNat : Nat) := by omega
    rw [e]
    exact fin _ (by omega)
theorem prog10 {ns : List Int} (hs : lstOf h0 (.ref 0) = some (ns.map PV.int)) (hk : Kept h0 h) (q : PQ h0 D.rt) (hw0 : 0 < ms.length) (hw1 : ms.length ≤ 3) (hm : ∀ m ∈ ms, 0 ≤ m) (hz0 : 0 < whs.length) (hz1 : whs.length ≤ 4) (hwh : ∀ w ∈ whs, w < ms.length) (eb : h[br]? = some (.lst ((List.range ms.length).map (fun i => tellB (ms.getD i 0 % 3).toNat) ++ [goB (c0 / 12 % 50)]))) (ew : h[wr]? = some (.lst (ms.map PV.int))) (el : h[lr]? = some (.lst (tb.map .ref))) (etl : tb.length = whs.length) (et : ∀ (i t : Nat), tb[i]? = some t → h[t]? = some (.lst [.int (whs.getD i 0 : Nat), .int ms.length, .non]))
    (hbr : h0.length ≤ br) (n1 : wr ≠ br) (n2 : lr ≠ br) (n5 : ∀ t ∈ tb, t ≠ br) :
    evB sgT (callS sgT (k + 1)) b__law_program_10 [some (.ref 0), some (.int c0), some (.int whs.length), some (.ref wr), some g4, some (.ref br), some (.ref lr), a7, a8, a9, a10, a11, a12, a13, a14] h D := by
  simp only [evB, evS, evE, evEs, evO, evC, evT, evG, evGs, bAdd, bAddT, bSub, bMulL, bMulR, bDivL, bModL, cLt, cLe, cGt, cGe, cIs, cNot, iT0, iT1, fMin, fMax, fAbs, fLenT, tyT, tyI, tyB, tyS, truB, truI, ex_int, ex_bl, ex_tup, ex_some, ex_cons, eq_self, ex_var, eq_int, ne_int, eq_lit, ne_lit, startL, List.map_cons, List.map_nil, List.cons_append, List.nil_append, List.length_cons, List.length_nil, List.replicate, List.getElem?_cons_zero, List.getElem?_cons_succ, List.set_cons_zero, List.set_cons_succ, lenTs, Int.reduceToNat, Int.reducePow, Int.reduceSub, Int.reduceAdd, Int.reduceMul, Int.reduceNeg, Int.reduceLT, Int.reduceLE, Int.reduceEq, Nat.reduceLT, Nat.reduceLeDiff, Nat.reduceAdd, Nat.reduceSub, Nat.reducePow, bPowL, SZ, tyOf, evI, items_ref, items_tup, live_ref, live_tup, lstOf_new, true_and, and_true, ne_eq, not_true_eq_false, not_false_eq_true, Int.cast_ofNat_Int, decide_eq_true_eq, if_true, if_false, ite_true, ite_false, List.nil_append, isB, String.reduceBEq, String.reduceEq, decide_true, decide_false, Bool.false_eq_true, Bool.or_false, Bool.and_false, Bool.or_true, Bool.and_true, Bool.true_and, Bool.false_and, Bool.not_true, Bool.not_false, ite_true, ite_false, reduceIte, Bool.true_or, Bool.false_or, gt_iff_lt, ge_iff_le, iM1, iM1', iM2, cut_last, cut_last2, slT, fTupL, fTupT, fListL, fInt, fIntB, wipe0, wipe1, tNs, tsNs, inT, isBl, notBl, List.all_cons, List.all_nil, List.any_cons, List.any_nil, flP, eqP, isBlB, notRef, lit_beq, List.append_nil, List.not_mem_nil, isNonB, Int.neg_neg, Int.reduceNegSucc, b__law_program_10]
  have hbr1 := (List.getElem?_eq_some_iff.mp eb).1
  refine comp_all (fun v => ∃ m : Nat, v = .int m ∧ m < whs.length) (fun _ => trivial) _ [] (fun x hx acc K hK => ?_) (fun _ h => by cases h) (by show _ ≤ 16777216; simp [rangeL]) fun vs hvl hv => ?_
  · obtain ⟨j, hj, rfl⟩ := mem_range hx
    refine s_cell (lstOf_kept (hk.trans Kept.app) hs) (by omega) ?_
    simp only [evB, evS, evE, evEs, evO, evC, evT, evG, evGs, bAdd, bAddT, bSub, bMulL, bMulR, bDivL, bModL, cLt, cLe, cGt, cGe, cIs, cNot, iT0, iT1, fMin, fMax, fAbs, fLenT, tyT, tyI, tyB, tyS, truB, truI, ex_int, ex_bl, ex_tup, ex_some, ex_cons, eq_self, ex_var, eq_int, ne_int, eq_lit, ne_lit, startL, List.map_cons, List.map_nil, List.cons_append, List.nil_append, List.length_cons, List.length_nil, List.replicate, List.getElem?_cons_zero, List.getElem?_cons_succ, List.set_cons_zero, List.set_cons_succ, lenTs, Int.reduceToNat, Int.reducePow, Int.reduceSub, Int.reduceAdd, Int.reduceMul, Int.reduceNeg, Int.reduceLT, Int.reduceLE, Int.reduceEq, Nat.reduceLT, Nat.reduceLeDiff, Nat.reduceAdd, Nat.reduceSub, Nat.reducePow, bPowL, SZ, tyOf, evI, items_ref, items_tup, live_ref, live_tup, lstOf_new, true_and, and_true, ne_eq, not_true_eq_false, not_false_eq_true, Int.cast_ofNat_Int, decide_eq_true_eq, if_true, if_false, ite_true, ite_false, List.nil_append, isB, String.reduceBEq, String.reduceEq, decide_true, decide_false, Bool.false_eq_true, Bool.or_false, Bool.and_false, Bool.or_true, Bool.and_true, Bool.true_and, Bool.false_and, Bool.not_true, Bool.not_false, ite_true, ite_false, reduceIte, Bool.true_or, Bool.false_or, gt_iff_lt, ge_iff_le, iM1, iM1', iM2, cut_last, cut_last2, slT, fTupL, fTupT, fListL, fInt, fIntB, wipe0, wipe1, tNs, tsNs, inT, isBl, notBl, List.all_cons, List.all_nil, List.any_cons, List.any_nil, flP, eqP, isBlB, notRef, lit_beq, List.append_nil, List.not_mem_nil, isNonB, Int.neg_neg, Int.reduceNegSucc]
    refine s_mixed (by omega) (by omega) fun m m0 _ => ?_
    rw [bModL (by omega)]
    have h1 := Int.emod_nonneg m (b := (whs.length : Int)) (by omega)
    have h2 := Int.emod_lt_of_pos m (b := (whs.length : Int)) (by omega)
    exact hK _ ⟨(m % (whs.length : Int)).toNat, by congr 1; omega, by omega⟩
  obtain ⟨hms, rfl, hvv⟩ := nats_of hv
  have hvl4 : hms.length = 4 := by simpa [rangeL] using hvl
  have e4 : hms.map (fun m => PV.int (m : Nat)) = (List.range 4).map fun j => .int (hms.getD j 0 : Nat) := by
    obtain ⟨a, b, c, d, rfl⟩ := list4 hvl4
    rfl
  have eh := get_new (h := h) (o := PO.lst (hms.map fun m => PV.int (m : Nat)))
  rw [e4] at eh ⊢
  refine prog11 hs (hk.trans Kept.app) q (fun vls count hl hv hc => ?_) hm (get_app eb) (get_app ew) (get_app el) etl (fun i t e => get_app (et i t e)) eh hbr n1 n2 (by omega) n5
  exact ⟨hw0, hw1, hz1, fun w => by show (ms.getD w 0 % 3).toNat < 3; omega, fun z => getD_lt hwh hw0, fun j => getD_lt hvv hz0, fun j => getD_in hv, hc, by show 0 ≤ c0 / 12 % 50 ∧ c0 / 12 % 50 ≤ 49; omega⟩
theorem prog8 {ns : List Int} {many : Nat} (hs : lstOf h0 (.ref 0) = some (ns.map PV.int)) (hk : Kept h0 h) (q : PQ h0 D.rt) (hw0 : 0 < ms.length) (hw1 : ms.length ≤ 3) (hm : ∀ m ∈ ms, 0 ≤ m) (hz0 : 0 < many) (hz1 : many ≤ 4) (eb : h[br]? = some (.lst ((List.range ms.length).map (fun i => tellB (ms.getD i 0 % 3).toNat) ++ [goB (c0 / 12 % 50)]))) (ew : h[wr]? = some (.lst (ms.map PV.int)))
    (hbr : h0.length ≤ br) (n1 : wr ≠ br) :
    evB sgT (callS sgT (k + 1)) b__law_program_8 [some (.ref 0), some (.int c0), some (.int many), some (.ref wr), some g4, some (.ref br), a6, a7, a8, a9, a10, a11, a12, a13, a14] h D := by
  simp only [evB, evS, evE, evEs, evO, evC, evT, evG, evGs, bAdd, bAddT, bSub, bMulL, bMulR, bDivL, bModL, cLt, cLe, cGt, cGe, cIs, cNot, iT0, iT1, fMin, fMax, fAbs, fLenT, tyT, tyI, tyB, tyS, truB, truI, ex_int, ex_bl, ex_tup, ex_some, ex_cons, eq_self, ex_var, eq_int, ne_int, eq_lit, ne_lit, startL, List.map_cons, List.map_nil, List.cons_append, List.nil_append, List.length_cons, List.length_nil, List.replicate, List.getElem?_cons_zero, List.getElem?_cons_succ, List.set_cons_zero, List.set_cons_succ, lenTs, Int.reduceToNat, Int.reducePow, Int.reduceSub, Int.reduceAdd, Int.reduceMul, Int.reduceNeg, Int.reduceLT, Int.reduceLE, Int.reduceEq, Nat.reduceLT, Nat.reduceLeDiff, Nat.reduceAdd, Nat.reduceSub, Nat.reducePow, bPowL, SZ, tyOf, evI, items_ref, items_tup, live_ref, live_tup, lstOf_new, true_and, and_true, ne_eq, not_true_eq_false, not_false_eq_true, Int.cast_ofNat_Int, decide_eq_true_eq, if_true, if_false, ite_true, ite_false, List.nil_append, isB, String.reduceBEq, String.reduceEq, decide_true, decide_false, Bool.false_eq_true, Bool.or_false, Bool.and_false, Bool.or_true, Bool.and_true, Bool.true_and, Bool.false_and, Bool.not_true, Bool.not_false, ite_true, ite_false, reduceIte, Bool.true_or, Bool.false_or, gt_iff_lt, ge_iff_le, iM1, iM1', iM2, cut_last, cut_last2, slT, fTupL, fTupT, fListL, fInt, fIntB, wipe0, wipe1, tNs, tsNs, inT, isBl, notBl, List.all_cons, List.all_nil, List.any_cons, List.any_nil, flP, eqP, isBlB, notRef, lit_beq, List.append_nil, List.not_mem_nil, isNonB, Int.neg_neg, Int.reduceNegSucc, b__law_program_8]
  have hbr1 := (List.getElem?_eq_some_iff.mp eb).1
  refine ⟨⟨by omega, by omega⟩, ?_⟩
  refine iter_invN (fun i l h' => ∃ a7 tb whs, l = [some (.ref 0), some (.int c0), some (.int many), some (.ref wr), some g4, some (.ref br), some (.ref h.length), a7, a8, a9, a10, a11, a12, a13, a14] ∧ tb.length = i ∧ whs.length = i ∧ (∀ w ∈ whs, w < ms.length) ∧ h'[h.length]? = some (PO.lst (tb.map PV.ref)) ∧ (∀ (i t : Nat), tb[i]? = some t → h'[t]? = some (PO.lst [.int (whs.getD i 0 : Nat), .int ms.length, .non])) ∧ (∀ t ∈ tb, h.length < t) ∧ Kept h h')
    (fun _ _ _ _ => trivial) _ 0 (fun i x hx l h2 K iv hK => ?_) (fun l h2 iv => ?_) _ _ ⟨_, [], [], rfl, rfl, rfl, by simp, get_new, by simp, by simp, Kept.app⟩
  · obtain ⟨a7, tb, whs, rfl, tl, wl, hwh, e2, et, ht, hk2⟩ := iv
    obtain ⟨hi, rfl⟩ := range_at hx
    simp only [evB, evS, evE, evEs, evO, evC, evT, evG, evGs, bAdd, bAddT, bSub, bMulL, bMulR, bDivL, bModL, cLt, cLe, cGt, cGe, cIs, cNot, iT0, iT1, fMin, fMax, fAbs, fLenT, tyT, tyI, tyB, tyS, truB, truI, ex_int, ex_bl, ex_tup, ex_some, ex_cons, eq_self, ex_var, eq_int, ne_int, eq_lit, ne_lit, startL, List.map_cons, List.map_nil, List.cons_append, List.nil_append, List.length_cons, List.length_nil, List.replicate, List.getElem?_cons_zero, List.getElem?_cons_succ, List.set_cons_zero, List.set_cons_succ, lenTs, Int.reduceToNat, Int.reducePow, Int.reduceSub, Int.reduceAdd, Int.reduceMul, Int.reduceNeg, Int.reduceLT, Int.reduceLE, Int.reduceEq, Nat.reduceLT, Nat.reduceLeDiff, Nat.reduceAdd, Nat.reduceSub, Nat.reducePow, bPowL, SZ, tyOf, evI, items_ref, items_tup, live_ref, live_tup, lstOf_new, true_and, and_true, ne_eq, not_true_eq_false, not_false_eq_true, Int.cast_ofNat_Int, decide_eq_true_eq, if_true, if_false, ite_true, ite_false, List.nil_append, isB, String.reduceBEq, String.reduceEq, decide_true, decide_false, Bool.false_eq_true, Bool.or_false, Bool.and_false, Bool.or_true, Bool.and_true, Bool.true_and, Bool.false_and, Bool.not_true, Bool.not_false, ite_true, ite_false, reduceIte, Bool.true_or, Bool.false_or, gt_iff_lt, ge_iff_le, iM1, iM1', iM2, cut_last, cut_last2, slT, fTupL, fTupT, fListL, fInt, fIntB, wipe0, wipe1, tNs, tsNs, inT, isBl, notBl, List.all_cons, List.all_nil, List.any_cons, List.any_nil, flP, eqP, isBlB, notRef, lit_beq, List.append_nil, List.not_mem_nil, isNonB, Int.neg_neg, Int.reduceNegSucc]
    refine ⟨ty_get e2, ?_⟩
    refine s_cell (lstOf_kept (hk.trans hk2) hs) (by omega) ?_
    simp only [evB, evS, evE, evEs, evO, evC, evT, evG, evGs, bAdd, bAddT, bSub, bMulL, bMulR, bDivL, bModL, cLt, cLe, cGt, cGe, cIs, cNot, iT0, iT1, fMin, fMax, fAbs, fLenT, tyT, tyI, tyB, tyS, truB, truI, ex_int, ex_bl, ex_tup, ex_some, ex_cons, eq_self, ex_var, eq_int, ne_int, eq_lit, ne_lit, startL, List.map_cons, List.map_nil, List.cons_append, List.nil_append, List.length_cons, List.length_nil, List.replicate, List.getElem?_cons_zero, List.getElem?_cons_succ, List.set_cons_zero, List.set_cons_succ, lenTs, Int.reduceToNat, Int.reducePow, Int.reduceSub, Int.reduceAdd, Int.reduceMul, Int.reduceNeg, Int.reduceLT, Int.reduceLE, Int.reduceEq, Nat.reduceLT, Nat.reduceLeDiff, Nat.reduceAdd, Nat.reduceSub, Nat.reducePow, bPowL, SZ, tyOf, evI, items_ref, items_tup, live_ref, live_tup, lstOf_new, true_and, and_true, ne_eq, not_true_eq_false, not_false_eq_true, Int.cast_ofNat_Int, decide_eq_true_eq, if_true, if_false, ite_true, ite_false, List.nil_append, isB, String.reduceBEq, String.reduceEq, decide_true, decide_false, Bool.false_eq_true, Bool.or_false, Bool.and_false, Bool.or_true, Bool.and_true, Bool.true_and, Bool.false_and, Bool.not_true, Bool.not_false, ite_true, ite_false, reduceIte, Bool.true_or, Bool.false_or, gt_iff_lt, ge_iff_le, iM1, iM1', iM2, cut_last, cut_last2, slT, fTupL, fTupT, fListL, fInt, fIntB, wipe0, wipe1, tNs, tsNs, inT, isBl, notBl, List.all_cons, List.all_nil, List.any_cons, List.any_nil, flP, eqP, isBlB, notRef, lit_beq, List.append_nil, List.not_mem_nil, isNonB, Int.neg_neg, Int.reduceNegSucc]
    refine s_mixed (by omega) (by omega) fun m m0 _ => ?_
    rw [fLenL]
    refine ⟨_, lst_got (hk2 _ _ ew), ?_⟩
    rw [List.length_map, bModL (by omega), fLenL]
    refine ⟨_, lst_got (hk2 _ _ ew), ?_⟩
    rw [List.length_map, mApp]
    have h1 := Int.emod_nonneg m (b := (ms.length : Int)) (by omega)
    have h3 := Int.emod_lt_of_pos m (b := (ms.length : Int)) (by omega)
    have e : m % (ms.length : Int) = ((m % (ms.length : Int)).toNat : Nat) := by omega
    generalize (m % (ms.length : Int)).toNat = w at e
    rw [e]
    have hlt := (List.getElem?_eq_some_iff.mp e2).1
    have ei : 0 + i = i := Nat.zero_add i
    rw [ei] at tl wl
    have hi4 : i < 4 := by omega
    refine ⟨_, get_app e2, by show _ < 16777216; simp; omega, ?_⟩
    refine hK _ _ ⟨_, tb ++ [h2.length], whs ++ [w], rfl, by simp; omega, by simp; omega, fun z hz => ?_, ?_, fun j t e5 => ?_, fun t ht2 => ?_, (hk2.trans Kept.app).set (Nat.le_refl _)⟩
    · rcases List.mem_append.mp hz with hz | hz
      · exact hwh z hz
      · rw [List.mem_singleton.mp hz]; omega
    · rw [List.getElem?_set_self (by simp; omega), List.map_append]; rfl
    · by_cases hj : j < tb.length
      · rw [List.getElem?_append_left hj] at e5
        have := ht t (List.mem_of_getElem? e5)
        rw [List.getD_eq_getElem?_getD, List.getElem?_append_left (by omega), ← List.getD_eq_getElem?_getD]
        exact get_set_ne (get_app (et j t e5)) (by omega)
      · have hj2 : j = tb.length := by
          have := (List.getElem?_eq_some_iff.mp e5).1
          simp at this; omega
        subst hj2
        have e6 : h2.length = t := by
          rw [List.getElem?_append_right (Nat.le_refl _), Nat.sub_self] at e5
          simpa using e5
        subst e6
        rw [List.getD_eq_getElem?_getD, List.getElem?_append_right (by omega), show tb.length - whs.length = 0 by omega]
        exact get_set_ne get_new (by omega)
    · rcases List.mem_append.mp ht2 with hz | hz
      · exact ht t hz
      · rw [List.mem_singleton.mp hz]; exact hlt
  · obtain ⟨a7, tb, whs, rfl, tl, wl, hwh, e2, et, ht, hk2⟩ := iv
    rw [Nat.zero_add, range_len, Int.toNat_natCast] at tl wl
    subst wl
    exact prog10 hs (hk.trans hk2) q hw0 hw1 hm hz0 hz1 hwh (hk2 _ _ eb) (hk2 _ _ ew) e2 tl et hbr n1 (by omega) fun t htm => by have := ht t htm; omega
end
section
variable {k : Nat} {h : PH} {Q : KQ} {X : KX}
theorem s_program {ns : List Int} (hs : lstOf h (.ref 0) = some (ns.map PV.int)) (q : PQ h Q) : callS sgT (k + 2) (.fn n__law_program) [.ref 0] h Q X := by
  rw [call_in (d := d__law_program) rfl rfl]
  have eb : d__law_program.body = _ := b__law_program_cut
  rw [eb]
  simp only [evB, evS, evE, evEs, evO, evC, evT, evG, evGs, bAdd, bAddT, bSub, bMulL, bMulR, bDivL, bModL, cLt, cLe, cGt, cGe, cIs, cNot, iT0, iT1, fMin, fMax, fAbs, fLenT, tyT, tyI, tyB, tyS, truB, truI, ex_int, ex_bl, ex_tup, ex_some, ex_cons, eq_self, ex_var, eq_int, ne_int, eq_lit, ne_lit, startL, List.map_cons, List.map_nil, List.cons_append, List.nil_append, List.length_cons, List.length_nil, List.replicate, List.getElem?_cons_zero, List.getElem?_cons_succ, List.set_cons_zero, List.set_cons_succ, lenTs, Int.reduceToNat, Int.reducePow, Int.reduceSub, Int.reduceAdd, Int.reduceMul, Int.reduceNeg, Int.reduceLT, Int.reduceLE, Int.reduceEq, Nat.reduceLT, Nat.reduceLeDiff, Nat.reduceAdd, Nat.reduceSub, Nat.reducePow, bPowL, SZ, tyOf, evI, items_ref, items_tup, live_ref, live_tup, lstOf_new, true_and, and_true, ne_eq, not_true_eq_false, not_false_eq_true, Int.cast_ofNat_Int, decide_eq_true_eq, if_true, if_false, ite_true, ite_false, List.nil_append, isB, String.reduceBEq, String.reduceEq, decide_true, decide_false, Bool.false_eq_true, Bool.or_false, Bool.and_false, Bool.or_true, Bool.and_true, Bool.true_and, Bool.false_and, Bool.not_true, Bool.not_false, ite_true, ite_false, reduceIte, Bool.true_or, Bool.false_or, gt_iff_lt, ge_iff_le, iM1, iM1', iM2, cut_last, cut_last2, slT, fTupL, fTupT, fListL, fInt, fIntB, wipe0, wipe1, tNs, tsNs, inT, isBl, notBl, List.all_cons, List.all_nil, List.any_cons, List.any_nil, flP, eqP, isBlB, notRef, lit_beq, List.append_nil, List.not_mem_nil, isNonB, Int.neg_neg, Int.reduceNegSucc, d__law_program]
  refine s_cell hs (by omega) ?_
  simp only [evB, evS, evE, evEs, evO, evC, evT, evG, evGs, bAdd, bAddT, bSub, bMulL, bMulR, bDivL, bModL, cLt, cLe, cGt, cGe, cIs, cNot, iT0, iT1, fMin, fMax, fAbs, fLenT, tyT, tyI, tyB, tyS, truB, truI, ex_int, ex_bl, ex_tup, ex_some, ex_cons, eq_self, ex_var, eq_int, ne_int, eq_lit, ne_lit, startL, List.map_cons, List.map_nil, List.cons_append, List.nil_append, List.length_cons, List.length_nil, List.replicate, List.getElem?_cons_zero, List.getElem?_cons_succ, List.set_cons_zero, List.set_cons_succ, lenTs, Int.reduceToNat, Int.reducePow, Int.reduceSub, Int.reduceAdd, Int.reduceMul, Int.reduceNeg, Int.reduceLT, Int.reduceLE, Int.reduceEq, Nat.reduceLT, Nat.reduceLeDiff, Nat.reduceAdd, Nat.reduceSub, Nat.reducePow, bPowL, SZ, tyOf, evI, items_ref, items_tup, live_ref, live_tup, lstOf_new, true_and, and_true, ne_eq, not_true_eq_false, not_false_eq_true, Int.cast_ofNat_Int, decide_eq_true_eq, if_true, if_false, ite_true, ite_false, List.nil_append, isB, String.reduceBEq, String.reduceEq, decide_true, decide_false, Bool.false_eq_true, Bool.or_false, Bool.and_false, Bool.or_true, Bool.and_true, Bool.true_and, Bool.false_and, Bool.not_true, Bool.not_false, ite_true, ite_false, reduceIte, Bool.true_or, Bool.false_or, gt_iff_lt, ge_iff_le, iM1, iM1', iM2, cut_last, cut_last2, slT, fTupL, fTupT, fListL, fInt, fIntB, wipe0, wipe1, tNs, tsNs, inT, isBl, notBl, List.all_cons, List.all_nil, List.any_cons, List.any_nil, flP, eqP, isBlB, notRef, lit_beq, List.append_nil, List.not_mem_nil, isNonB, Int.neg_neg, Int.reduceNegSucc]
  generalize ns.getD 0 0 = c0
  refine ⟨⟨by omega, by omega⟩, ?_⟩
  refine comp_all (fun v => ∃ m : Int, v = .int m ∧ 0 ≤ m) (fun _ => trivial) _ [] (fun x hx acc K hk => ?_) (fun _ h => by cases h) (by show _ ≤ 16777216; simp [rangeL]; omega) fun vs hvl hv => ?_
  · obtain ⟨j, hj, rfl⟩ := mem_range hx
    refine s_cell (lstOf_app hs) (by omega) (s_mixed (by omega) (by omega) fun m m0 _ => hk _ ⟨m, rfl, m0⟩)
  obtain ⟨ms, rfl, hm⟩ := ints_of hv
  have hW : 0 < ms.length ∧ ms.length ≤ 3 := by
    simp [rangeL] at hvl
    omega
  clear hvl hv
  refine ⟨_, lst_got get_new, ?_⟩
  refine comp_ix rfl (fun h' hk => lstOf_kept hk (lst_got get_new)) (fun i => tellB (ms.getD i 0 % 3).toNat) _ 0 [] _ (fun i x hx h' K hk hK => ?_) Kept.app get_new (by simp; omega) fun H2 hk2 e2 => ?_
  · rw [List.getElem?_map] at hx
    obtain ⟨m, em, rfl⟩ := Option.map_eq_some_iff.mp hx
    refine s_tell (hm m (List.mem_of_getElem? em)) fun t => ?_
    have := hK t
    rw [Nat.zero_add, List.getD_eq_getElem?_getD, em] at this
    exact this
  rw [List.nil_append, List.length_map] at e2
  have hms2 := hk2 _ _ (get_new (h := h) (o := PO.lst (ms.map PV.int)))
  have K2 : Kept h H2 := Kept.app.trans hk2
  rw [bAddL]
  refine ⟨_, _, get_app e2, get_new, by show _ ≤ 16777216; simp; omega, ?_⟩
  have hl2 := (List.getElem?_eq_some_iff.mp hms2).1
  have hmany : 1 + c0 % 4 = ((1 + c0 % 4).toNat : Nat) := by omega
  rw [hmany]
  have ez : (fun i => tellB (ms.getD (0 + i) 0 % 3).toNat) = fun i => tellB (ms.getD i 0 % 3).toNat := by funext i; rw [Nat.zero_add]
  rw [ez]
  refine prog8 (wr := h.length) hs (K2.trans (Kept.app.trans Kept.app)) q hW.1 hW.2 hm (by omega) (by omega) get_new (get_app (get_app hms2)) (by simp; omega) (by simp; omega)
end
end Py

set_option Elab.async false
set_option linter.all false
set_option maxRecDepth 100000
set_option maxHeartbeats 4000000
/-! Law 63, over the reading: the law's own answer. -/
namespace Py
open PySem
def sv (e : Int × Int) : PV := .tup [.int e.1, .int e.2]
inductive EndOk : PV → Prop
  | dry : EndOk (.tup [.str "dry"])
  | deep : EndOk (.tup [.str "deep"])
  | val {n : Int} : -100000 ≤ n ∧ n ≤ 100000 → EndOk (.tup [.str "value", .int n])
theorem ans_small {P : Pg} {most : Int} (ok : P.Ok) : ∀ (n j : Nat) (p : PS), j + n = P.count → (∀ i, -500 ≤ p.f i ∧ p.f i ≤ 500) → (-49 - 1000 * (j : Int) ≤ p.total ∧ p.total ≤ 49 + 1000 * (j : Int)) →
    (P.ans most n j p).2.1 ≤ p.calls + 2 * n ∧ (P.ans most n j p).2.2.length ≤ p.sites.length + 2 * n ∧ EndOk (P.ans most n j p).1 := by
  intro n
  induction n with
  | zero => intro j p hj hf ht; exact ⟨Nat.le_refl _, Nat.le_refl _, .val (by have := ok.count; omega)⟩
  | succ n ih =>
    intro j p hj hf ht
    have hc := ok.count
    unfold Pg.ans
    split
    · exact ⟨by show p.calls ≤ _; omega, by simp; omega, .dry⟩
    split
    · exact ⟨by show p.calls + 1 ≤ _; omega, by simp; omega, .deep⟩
    split
    · exact ⟨by show p.calls + 1 ≤ _; omega, by simp; omega, .dry⟩
    · have hnn : -100 ≤ ((P.count : Int) - j) ∧ ((P.count : Int) - j) ≤ 100 := by omega
      have ts := told_small (way := P.way p) hnn (hf p.a)
      obtain ⟨h1, h2, h3⟩ := ih (j + 1) (P.nxt ((P.count : Int) - j) p) (by omega) (fldN_small hnn hf) (by show _ ≤ p.total + told (P.way p) _ _ ∧ p.total + told (P.way p) _ _ ≤ _; omega)
      have e1 : (P.nxt ((P.count : Int) - j) p).calls = p.calls + 2 := rfl
      have e2 : (P.nxt ((P.count : Int) - j) p).sites.length = p.sites.length + 2 := by show (p.sites ++ [_] ++ [_]).length = _; simp
      exact ⟨by omega, by omega, h3⟩
theorem answer_small {P : Pg} {most : Int} (ok : P.Ok) : (P.answer most).2.1 ≤ 100 ∧ (P.answer most).2.2.length ≤ 100 ∧ EndOk (P.answer most).1 := by
  unfold Pg.answer
  have hc := ok.count
  have hl := ok.last
  split
  · exact ⟨by show 0 ≤ 100; omega, by show 1 ≤ 100; omega, .dry⟩
  · obtain ⟨h1, h2, h3⟩ := ans_small (most := most) ok P.count 0 ⟨P.vl, P.last, 1, 1, 2, 3, [(2, (P.hm 0 : Int))]⟩ (by omega) ok.vl (by show _ ≤ P.last ∧ P.last ≤ _; omega)
    have e1 : ({ f := P.vl, total := P.last, calls := 1, a := 1, b := 2, c := 3, sites := [(2, (P.hm 0 : Int))] } : PS).calls = 1 := rfl
    have e2 : ({ f := P.vl, total := P.last, calls := 1, a := 1, b := 2, c := 3, sites := [(2, (P.hm 0 : Int))] } : PS).sites.length = 1 := rfl
    exact ⟨by omega, by omega, h3⟩
section
variable {k : Nat} {h : PH} {Q : KQ} {X : KX} {P : Pg} {most : Int}
def fl (f : Nat → Int) : List PV := [.int (f 0), .int (f 1), .int (f 2), .int (f 3)]
theorem at4' {f : Nat → PV} {t : Nat} (h : t < 4) : atI ((List.range 4).map f) (t : Int) = some (f t) := at4 h
theorem fl_at {f : Nat → Int} {a : Nat} (h : a ≤ 3) : atI (fl f) (a : Int) = some (.int (f a)) := by
  have : a = 0 ∨ a = 1 ∨ a = 2 ∨ a = 3 := by omega
  rcases this with rfl | rfl | rfl | rfl <;> rfl
theorem fl_set {f : Nat → Int} {a : Nat} {n : Int} (h : a ≤ 3) : (fl f).set a (.int n) = fl (upd f a n) := by
  have : a = 0 ∨ a = 1 ∨ a = 2 ∨ a = 3 := by omega
  rcases this with rfl | rfl | rfl | rfl <;> rfl
theorem fl_ix {f : Nat → Int} {a : Nat} (h : a ≤ 3) : ixN (fl f).length (a : Int) = some a := by
  show ixN 4 _ = _
  unfold ixN; rw [if_pos (by omega), if_pos (by omega), Int.toNat_natCast]
theorem atR {f : Nat → PV} {n t : Nat} (h : t < n) : atI ((List.range n).map f) (t : Int) = some (f t) := by
  rw [atI_nat, List.getElem?_map, List.getElem?_range h]; rfl
theorem ex_told {way : Nat} {n x : Int} (h : way < 3) : atI [PV.int (n + x), PV.int (n - x), PV.int (n + n)] (way : Int) = some (.int (told way n x)) := by
  have : way = 0 ∨ way = 1 ∨ way = 2 := by omega
  rcases this with rfl | rfl | rfl <;> rfl
theorem ex_fld {way a : Nat} {n : Int} {f : Nat → Int} (h : way < 3) (ha : a ≤ 3) : ∃ z, atI [PV.int (f a), PV.int (f a), PV.int n] (way : Int) = some (.int z) ∧ (fl f).set a (.int z) = fl (fldN way n f a) := by
  have s : (fl f).set a (.int (f a)) = fl f := by
    have : a = 0 ∨ a = 1 ∨ a = 2 ∨ a = 3 := by omega
    rcases this with rfl | rfl | rfl | rfl <;> rfl
  have : way = 0 ∨ way = 1 ∨ way = 2 := by omega
  rcases this with rfl | rfl | rfl
  · exact ⟨_, rfl, s⟩
  · exact ⟨_, rfl, s⟩
  · exact ⟨_, rfl, fl_set ha⟩
theorem ans_succ {n j : Nat} {p : PS} : P.ans most (n + 1) j p =
    if (p.calls : Int) = most then (.tup [.str "dry"], p.calls, p.sites ++ [(0, (P.hm p.a : Int))])
    else if j = 39 then (.tup [.str "deep"], p.calls + 1, p.sites ++ [(0, (P.hm p.a : Int))])
    else if ((p.calls + 1 : Nat) : Int) = most then (.tup [.str "dry"], p.calls + 1, p.sites ++ [(0, (P.hm p.a : Int))] ++ [(1, (P.hm 0 : Int))])
    else P.ans most n (j + 1) (P.nxt ((P.count : Int) - j) p) := rfl
theorem s_answer {v0 v1 : PV} {kr hr vr : Nat} (ok : P.Ok) (ek : h[kr]? = some (.lst ((List.range P.many).map fun z => .int (P.kd (P.wh z))))) (eh : h[hr]? = some (.lst ((List.range 4).map fun j => .int (P.hm j)))) (ev : h[vr]? = some (.lst ((List.range 4).map fun j => .int (P.vl j))))
    (q : ∀ h' sr, Kept h h' → h'[sr]? = some (.lst ((P.answer most).2.2.map sv)) → Q (.tup [(P.answer most).1, .int (P.answer most).2.1, .ref sr]) h') :
    callS sgT (k + 1) (.fn n__law_answer) [.tup [v0, v1, .ref kr, .ref hr, .ref vr, .int P.count, .int P.last], .int most] h Q X := by
  rw [call_in (d := d__law_answer) rfl rfl]
  simp only [evB, evS, evE, evEs, evO, evC, evT, evG, evGs, bAdd, bAddT, bSub, bMulL, bMulR, bDivL, bModL, cLt, cLe, cGt, cGe, cIs, cNot, iT0, iT1, fMin, fMax, fAbs, fLenT, tyT, tyI, tyB, tyS, truB, truI, ex_int, ex_bl, ex_tup, ex_some, ex_cons, eq_self, ex_var, eq_int, ne_int, eq_lit, ne_lit, startL, List.map_cons, List.map_nil, List.cons_append, List.nil_append, List.length_cons, List.length_nil, List.replicate, List.getElem?_cons_zero, List.getElem?_cons_succ, List.set_cons_zero, List.set_cons_succ, lenTs, Int.reduceToNat, Int.reducePow, Int.reduceSub, Int.reduceAdd, Int.reduceMul, Int.reduceNeg, Int.reduceLT, Int.reduceLE, Int.reduceEq, Nat.reduceLT, Nat.reduceLeDiff, Nat.reduceAdd, Nat.reduceSub, Nat.reducePow, bPowL, SZ, tyOf, evI, items_ref, items_tup, live_ref, live_tup, lstOf_new, true_and, and_true, ne_eq, not_true_eq_false, not_false_eq_true, Int.cast_ofNat_Int, decide_eq_true_eq, if_true, if_false, ite_true, ite_false, List.nil_append, isB, String.reduceBEq, String.reduceEq, decide_true, decide_false, Bool.false_eq_true, Bool.or_false, Bool.and_false, Bool.or_true, Bool.and_true, Bool.true_and, Bool.false_and, Bool.not_true, Bool.not_false, ite_true, ite_false, reduceIte, Bool.true_or, Bool.false_or, gt_iff_lt, ge_iff_le, iM1, iM1', iM2, cut_last, cut_last2, slT, fTupL, fTupT, fListL, fInt, fIntB, wipe0, wipe1, tNs, tsNs, inT, isBl, notBl, List.all_cons, List.all_nil, List.any_cons, List.any_nil, flP, eqP, isBlB, notRef, lit_beq, List.append_nil, List.not_mem_nil, isNonB, Int.neg_neg, Int.reduceNegSucc, d__law_answer, b__law_answer]
  refine ⟨rfl, _, _, rfl, _, _, rfl, _, _, rfl, _, _, rfl, _, _, rfl, rfl, ?_⟩
  rw [iLat (lst_got eh) at40]
  unfold Pg.answer at q
  by_cases hm : most = 0
  · rw [if_pos hm] at q ⊢
    exact q _ _ Kept.app get_new
  rw [if_neg hm] at q ⊢
  generalize hA : P.ans most P.count 0 ⟨P.vl, P.last, 1, 1, 2, 3, [(2, (P.hm 0 : Int))]⟩ = A at q
  rw [fListL]
  refine ⟨_, lst_got (get_app ev), _, rfl, ⟨by omega, by have := ok.count; omega⟩, ?_⟩
  rw [Int.toNat_natCast]
  refine iter_invN (fun i l h' => ∃ (p : PS) (sr fr tr : Nat) (a12 a13 a14 a15 a16 a17 : Option PV), l = [some (.tup [v0, v1, .ref kr, .ref hr, .ref vr, .int P.count, .int P.last]), some (.int most), some (.ref kr), some (.ref hr), some (.ref vr), some (.int P.count), some (.int P.last), some (.ref sr), some (.ref fr), some (.int p.total), some (.int p.calls), some (.ref tr), a12, a13, a14, a15, a16, a17] ∧
      h'[sr]? = some (.lst (p.sites.map sv)) ∧ h'[fr]? = some (.lst (fl p.f)) ∧ h'[tr]? = some (.lst [.int p.a, .int p.b, .int p.c]) ∧ (1 ≤ p.a ∧ p.a ≤ 3) ∧ (1 ≤ p.b ∧ p.b ≤ 3) ∧ (1 ≤ p.c ∧ p.c ≤ 3) ∧ Kept h h' ∧ h.length ≤ sr ∧ h.length ≤ fr ∧ sr ≠ fr ∧ sr ≠ tr ∧ fr ≠ tr ∧ p.sites.length ≤ 1 + 2 * i ∧
      P.ans most (P.count - i) i p = A)
    (fun _ _ _ _ => trivial) _ 0 (fun i x hx l h2 K iv hK => ?_) (fun l h2 iv => ?_) _ _ ⟨⟨P.vl, P.last, 1, 1, 2, 3, [(2, (P.hm 0 : Int))]⟩, h.length, (h ++ [PO.lst [PV.tup [PV.int 2, PV.int (P.hm 0)]]]).length, (h ++ [PO.lst [PV.tup [PV.int 2, PV.int (P.hm 0)]]] ++ [PO.lst (fl P.vl)]).length, none, none, none, none, none, none, rfl, get_app (get_app get_new), get_app get_new, get_new, (show 1 ≤ 1 ∧ 1 ≤ 3 by omega), (show 1 ≤ 2 ∧ 2 ≤ 3 by omega), (show 1 ≤ 3 ∧ 3 ≤ 3 by omega), Kept.app.trans (Kept.app.trans Kept.app), Nat.le_refl _, by simp, by simp, by simp, by simp, Nat.le_refl _, hA⟩
  · obtain ⟨p, sr, fr, tr, a12, a13, a14, a15, a16, a17, rfl, es, ef, et, ha, hb, hc, hk, l1, l2, n1, n2, n3, hsl, ea⟩ := iv
    obtain ⟨hi, rfl⟩ := range_at hx
    rw [Nat.zero_add] at hsl ea
    have hcnt := ok.count
    obtain ⟨n, hn⟩ : ∃ n, P.count - i = n + 1 := ⟨P.count - i - 1, by omega⟩
    rw [hn, ans_succ] at ea
    simp only [evB, evS, evE, evEs, evO, evC, evT, evG, evGs, bAdd, bAddT, bSub, bMulL, bMulR, bDivL, bModL, cLt, cLe, cGt, cGe, cIs, cNot, iT0, iT1, fMin, fMax, fAbs, fLenT, tyT, tyI, tyB, tyS, truB, truI, ex_int, ex_bl, ex_tup, ex_some, ex_cons, eq_self, ex_var, eq_int, ne_int, eq_lit, ne_lit, startL, List.map_cons, List.map_nil, List.cons_append, List.nil_append, List.length_cons, List.length_nil, List.replicate, List.getElem?_cons_zero, List.getElem?_cons_succ, List.set_cons_zero, List.set_cons_succ, lenTs, Int.reduceToNat, Int.reducePow, Int.reduceSub, Int.reduceAdd, Int.reduceMul, Int.reduceNeg, Int.reduceLT, Int.reduceLE, Int.reduceEq, Nat.reduceLT, Nat.reduceLeDiff, Nat.reduceAdd, Nat.reduceSub, Nat.reducePow, bPowL, SZ, tyOf, evI, items_ref, items_tup, live_ref, live_tup, lstOf_new, true_and, and_true, ne_eq, not_true_eq_false, not_false_eq_true, Int.cast_ofNat_Int, decide_eq_true_eq, if_true, if_false, ite_true, ite_false, List.nil_append, isB, String.reduceBEq, String.reduceEq, decide_true, decide_false, Bool.false_eq_true, Bool.or_false, Bool.and_false, Bool.or_true, Bool.and_true, Bool.true_and, Bool.false_and, Bool.not_true, Bool.not_false, ite_true, ite_false, reduceIte, Bool.true_or, Bool.false_or, gt_iff_lt, ge_iff_le, iM1, iM1', iM2, cut_last, cut_last2, slT, fTupL, fTupT, fListL, fInt, fIntB, wipe0, wipe1, tNs, tsNs, inT, isBl, notBl, List.all_cons, List.all_nil, List.any_cons, List.any_nil, flP, eqP, isBlB, notRef, lit_beq, List.append_nil, List.not_mem_nil, isNonB, Int.neg_neg, Int.reduceNegSucc, Int.zero_add]
    rw [iL0 (lst_got et), iLat (lst_got (hk _ _ eh)) (at4 (t := p.a) (by omega)), iLat (lst_got (hk _ _ eh)) at40]
    refine ⟨lst_got get_new, ?_⟩
    simp only [evB, evS, evE, evEs, evO, evC, evT, evG, evGs, bAdd, bAddT, bSub, bMulL, bMulR, bDivL, bModL, cLt, cLe, cGt, cGe, cIs, cNot, iT0, iT1, fMin, fMax, fAbs, fLenT, tyT, tyI, tyB, tyS, truB, truI, ex_int, ex_bl, ex_tup, ex_some, ex_cons, eq_self, ex_var, eq_int, ne_int, eq_lit, ne_lit, startL, List.map_cons, List.map_nil, List.cons_append, List.nil_append, List.length_cons, List.length_nil, List.replicate, List.getElem?_cons_zero, List.getElem?_cons_succ, List.set_cons_zero, List.set_cons_succ, lenTs, Int.reduceToNat, Int.reducePow, Int.reduceSub, Int.reduceAdd, Int.reduceMul, Int.reduceNeg, Int.reduceLT, Int.reduceLE, Int.reduceEq, Nat.reduceLT, Nat.reduceLeDiff, Nat.reduceAdd, Nat.reduceSub, Nat.reducePow, bPowL, SZ, tyOf, evI, items_ref, items_tup, live_ref, live_tup, lstOf_new, true_and, and_true, ne_eq, not_true_eq_false, not_false_eq_true, Int.cast_ofNat_Int, decide_eq_true_eq, if_true, if_false, ite_true, ite_false, List.nil_append, isB, String.reduceBEq, String.reduceEq, decide_true, decide_false, Bool.false_eq_true, Bool.or_false, Bool.and_false, Bool.or_true, Bool.and_true, Bool.true_and, Bool.false_and, Bool.not_true, Bool.not_false, ite_true, ite_false, reduceIte, Bool.true_or, Bool.false_or, gt_iff_lt, ge_iff_le, iM1, iM1', iM2, cut_last, cut_last2, slT, fTupL, fTupT, fListL, fInt, fIntB, wipe0, wipe1, tNs, tsNs, inT, isBl, notBl, List.all_cons, List.all_nil, List.any_cons, List.any_nil, flP, eqP, isBlB, notRef, lit_beq, List.append_nil, List.not_mem_nil, isNonB, Int.neg_neg, Int.reduceNegSucc]
    have hk1 := Kept.app (h := h2) (t := [PO.lst [PV.tup [PV.int 0, PV.int (P.hm p.a)], PV.tup [PV.int 1, PV.int (P.hm 0)]]])
    have en := get_new (h := h2) (o := PO.lst [PV.tup [PV.int 0, PV.int (P.hm p.a)], PV.tup [PV.int 1, PV.int (P.hm 0)]])
    have hsn : sr ≠ h2.length := by have := (List.getElem?_eq_some_iff.mp es).1; omega
    generalize h2.length = nl at en hsn ⊢
    generalize h2 ++ [PO.lst [PV.tup [PV.int 0, PV.int (P.hm p.a)], PV.tup [PV.int 1, PV.int (P.hm 0)]]] = h3 at hk1 en ⊢
    refine ⟨ty_get (hk1 _ _ es), ?_⟩
    rw [mApp]
    refine ⟨_, hk1 _ _ es, by show _ < 16777216; simp; omega, ?_⟩
    have hs3 := (List.getElem?_eq_some_iff.mp (hk1 _ _ es)).1
    have es4 : (h3.set sr (.lst (p.sites.map sv ++ [PV.tup [PV.int 0, PV.int (P.hm p.a)]])))[sr]? = some (.lst ((p.sites ++ [(0, (P.hm p.a : Int))]).map sv)) := by
      rw [List.getElem?_set_self hs3, List.map_append]; rfl
    have hk4 : Kept h (h3.set sr (.lst (p.sites.map sv ++ [PV.tup [PV.int 0, PV.int (P.hm p.a)]]))) := (hk.trans hk1).set l1
    have ef4 : (h3.set sr (.lst (p.sites.map sv ++ [PV.tup [PV.int 0, PV.int (P.hm p.a)]])))[fr]? = _ := get_set_ne (hk1 _ _ ef) (Ne.symm n1)
    have et4 : (h3.set sr (.lst (p.sites.map sv ++ [PV.tup [PV.int 0, PV.int (P.hm p.a)]])))[tr]? = _ := get_set_ne (hk1 _ _ et) (Ne.symm n2)
    have en4 : (h3.set sr (.lst (p.sites.map sv ++ [PV.tup [PV.int 0, PV.int (P.hm p.a)]])))[nl]? = _ := get_set_ne en (Ne.symm hsn)
    generalize h3.set sr (.lst (p.sites.map sv ++ [PV.tup [PV.int 0, PV.int (P.hm p.a)]])) = h4 at es4 hk4 ef4 et4 en4 ⊢
    by_cases c1 : (p.calls : Int) = most
    · rw [if_pos c1] at ea ⊢
      subst ea
      exact q _ _ hk4 es4
    rw [if_neg c1] at ea ⊢
    by_cases c2 : i = 39
    · rw [if_pos c2] at ea
      rw [if_pos (by omega)]
      subst ea
      exact q _ _ hk4 es4
    rw [if_neg c2] at ea
    rw [if_neg (by omega)]
    generalize hnum : (P.count : Int) - (i : Int) = num at ea ⊢
    have hway := ok.kd (P.wh (P.hm p.a))
    obtain ⟨z, ez, es2⟩ := ex_fld (n := num) (f := p.f) hway ha.2
    rw [iL0 (lst_got et4), iLat (lst_got (hk4 _ _ eh)) (at4 (t := p.a) (by omega)), iLat (lst_got (hk4 _ _ ek)) (atR (ok.hm p.a))]
    rw [iL0 (lst_got et4), iLat (lst_got ef4) (fl_at ha.2), bAdd, iL0 (lst_got et4), iLat (lst_got ef4) (fl_at ha.2), bSub]
    rw [iLat (lst_got get_new) (ex_told hway)]
    have es5 := get_app (t := [PO.lst [PV.int (num + p.f p.a), PV.int (num - p.f p.a), PV.int (num + num)]]) es4
    have hk5 := hk4.trans (Kept.app (t := [PO.lst [PV.int (num + p.f p.a), PV.int (num - p.f p.a), PV.int (num + num)]]))
    have ef5 := get_app (t := [PO.lst [PV.int (num + p.f p.a), PV.int (num - p.f p.a), PV.int (num + num)]]) ef4
    have et5 := get_app (t := [PO.lst [PV.int (num + p.f p.a), PV.int (num - p.f p.a), PV.int (num + num)]]) et4
    have en5 := get_app (t := [PO.lst [PV.int (num + p.f p.a), PV.int (num - p.f p.a), PV.int (num + num)]]) en4
    generalize h4 ++ [PO.lst [PV.int (num + p.f p.a), PV.int (num - p.f p.a), PV.int (num + num)]] = h5 at es5 hk5 ef5 et5 en5 ⊢
    rw [iL0 (lst_got et5), iLat (lst_got ef5) (fl_at ha.2), iL0 (lst_got et5), iLat (lst_got ef5) (fl_at ha.2)]
    rw [iLat (lst_got get_new) ez]
    have es6 := get_app (t := [PO.lst [PV.int (p.f p.a), PV.int (p.f p.a), PV.int num]]) es5
    have hk6 := hk5.trans (Kept.app (t := [PO.lst [PV.int (p.f p.a), PV.int (p.f p.a), PV.int num]]))
    have ef6 := get_app (t := [PO.lst [PV.int (p.f p.a), PV.int (p.f p.a), PV.int num]]) ef5
    have et6 := get_app (t := [PO.lst [PV.int (p.f p.a), PV.int (p.f p.a), PV.int num]]) et5
    have en6 := get_app (t := [PO.lst [PV.int (p.f p.a), PV.int (p.f p.a), PV.int num]]) en5
    generalize h5 ++ [PO.lst [PV.int (p.f p.a), PV.int (p.f p.a), PV.int num]] = h6 at es6 hk6 ef6 et6 en6 ⊢
    rw [iL0 (lst_got et6), put_lst ef6 (fl_ix ha.2), bAdd, es2]
    have hfl : fr < h6.length := (List.getElem?_eq_some_iff.mp ef6).1
    have hfn : nl ≠ fr := fun e => by
      rw [e] at en6; rw [en6] at ef6; cases ef6
    have es7 := get_set_ne (u := PO.lst (fl (fldN (P.kd (P.wh (P.hm p.a))) num p.f p.a))) es6 n1
    have hk7 := hk6.set (a := fr) (o := PO.lst (fl (fldN (P.kd (P.wh (P.hm p.a))) num p.f p.a))) l2
    have ef7 : (h6.set fr (PO.lst (fl (fldN (P.kd (P.wh (P.hm p.a))) num p.f p.a))))[fr]? = some (PO.lst (fl (fldN (P.kd (P.wh (P.hm p.a))) num p.f p.a))) := List.getElem?_set_self hfl
    have et7 := get_set_ne (u := PO.lst (fl (fldN (P.kd (P.wh (P.hm p.a))) num p.f p.a))) et6 (Ne.symm n3)
    have en7 := get_set_ne (u := PO.lst (fl (fldN (P.kd (P.wh (P.hm p.a))) num p.f p.a))) en6 hfn
    generalize h6.set fr (PO.lst (fl (fldN (P.kd (P.wh (P.hm p.a))) num p.f p.a))) = h7 at es7 hk7 ef7 et7 en7 ⊢
    refine ⟨lst_got en7, ?_⟩
    simp only [evB, evS, evE, evEs, evO, evC, evT, evG, evGs, bAdd, bAddT, bSub, bMulL, bMulR, bDivL, bModL, cLt, cLe, cGt, cGe, cIs, cNot, iT0, iT1, fMin, fMax, fAbs, fLenT, tyT, tyI, tyB, tyS, truB, truI, ex_int, ex_bl, ex_tup, ex_some, ex_cons, eq_self, ex_var, eq_int, ne_int, eq_lit, ne_lit, startL, List.map_cons, List.map_nil, List.cons_append, List.nil_append, List.length_cons, List.length_nil, List.replicate, List.getElem?_cons_zero, List.getElem?_cons_succ, List.set_cons_zero, List.set_cons_succ, lenTs, Int.reduceToNat, Int.reducePow, Int.reduceSub, Int.reduceAdd, Int.reduceMul, Int.reduceNeg, Int.reduceLT, Int.reduceLE, Int.reduceEq, Nat.reduceLT, Nat.reduceLeDiff, Nat.reduceAdd, Nat.reduceSub, Nat.reducePow, bPowL, SZ, tyOf, evI, items_ref, items_tup, live_ref, live_tup, lstOf_new, true_and, and_true, ne_eq, not_true_eq_false, not_false_eq_true, Int.cast_ofNat_Int, decide_eq_true_eq, if_true, if_false, ite_true, ite_false, List.nil_append, isB, String.reduceBEq, String.reduceEq, decide_true, decide_false, Bool.false_eq_true, Bool.or_false, Bool.and_false, Bool.or_true, Bool.and_true, Bool.true_and, Bool.false_and, Bool.not_true, Bool.not_false, ite_true, ite_false, reduceIte, Bool.true_or, Bool.false_or, gt_iff_lt, ge_iff_le, iM1, iM1', iM2, cut_last, cut_last2, slT, fTupL, fTupT, fListL, fInt, fIntB, wipe0, wipe1, tNs, tsNs, inT, isBl, notBl, List.all_cons, List.all_nil, List.any_cons, List.any_nil, flP, eqP, isBlB, notRef, lit_beq, List.append_nil, List.not_mem_nil, isNonB, Int.neg_neg, Int.reduceNegSucc]
    refine ⟨ty_get es7, ?_⟩
    rw [mApp]
    refine ⟨_, es7, by show _ < 16777216; simp; omega, ?_⟩
    have hs7 := (List.getElem?_eq_some_iff.mp es7).1
    have es8 : (h7.set sr (.lst ((p.sites ++ [(0, (P.hm p.a : Int))]).map sv ++ [PV.tup [PV.int 1, PV.int (P.hm 0)]])))[sr]? = some (.lst ((p.sites ++ [(0, (P.hm p.a : Int))] ++ [(1, (P.hm 0 : Int))]).map sv)) := by
      rw [List.getElem?_set_self hs7, List.map_append (l₂ := [(1, (P.hm 0 : Int))])]; rfl
    have hk8 := hk7.set (a := sr) (o := .lst ((p.sites ++ [(0, (P.hm p.a : Int))]).map sv ++ [PV.tup [PV.int 1, PV.int (P.hm 0)]])) l1
    have ef8 := get_set_ne (u := PO.lst ((p.sites ++ [(0, (P.hm p.a : Int))]).map sv ++ [PV.tup [PV.int 1, PV.int (P.hm 0)]])) ef7 (Ne.symm n1)
    have et8 := get_set_ne (u := PO.lst ((p.sites ++ [(0, (P.hm p.a : Int))]).map sv ++ [PV.tup [PV.int 1, PV.int (P.hm 0)]])) et7 (Ne.symm n2)
    have en8 := get_set_ne (u := PO.lst ((p.sites ++ [(0, (P.hm p.a : Int))]).map sv ++ [PV.tup [PV.int 1, PV.int (P.hm 0)]])) en7 (Ne.symm hsn)
    generalize h7.set sr (.lst ((p.sites ++ [(0, (P.hm p.a : Int))]).map sv ++ [PV.tup [PV.int 1, PV.int (P.hm 0)]])) = h8 at es8 hk8 ef8 et8 en8 ⊢
    have ec : (p.calls : Int) + 1 = ((p.calls + 1 : Nat) : Int) := by omega
    rw [ec]
    by_cases c3 : ((p.calls + 1 : Nat) : Int) = most
    · rw [if_pos c3] at ea ⊢
      subst ea
      exact q _ _ hk8 es8
    rw [if_neg c3] at ea ⊢
    rw [if_neg (by omega)]
    refine ⟨lst_got en8, ?_⟩
    simp only [evB, evS, evE, evEs, evO, evC, evT, evG, evGs, bAdd, bAddT, bSub, bMulL, bMulR, bDivL, bModL, cLt, cLe, cGt, cGe, cIs, cNot, iT0, iT1, fMin, fMax, fAbs, fLenT, tyT, tyI, tyB, tyS, truB, truI, ex_int, ex_bl, ex_tup, ex_some, ex_cons, eq_self, ex_var, eq_int, ne_int, eq_lit, ne_lit, startL, List.map_cons, List.map_nil, List.cons_append, List.nil_append, List.length_cons, List.length_nil, List.replicate, List.getElem?_cons_zero, List.getElem?_cons_succ, List.set_cons_zero, List.set_cons_succ, lenTs, Int.reduceToNat, Int.reducePow, Int.reduceSub, Int.reduceAdd, Int.reduceMul, Int.reduceNeg, Int.reduceLT, Int.reduceLE, Int.reduceEq, Nat.reduceLT, Nat.reduceLeDiff, Nat.reduceAdd, Nat.reduceSub, Nat.reducePow, bPowL, SZ, tyOf, evI, items_ref, items_tup, live_ref, live_tup, lstOf_new, true_and, and_true, ne_eq, not_true_eq_false, not_false_eq_true, Int.cast_ofNat_Int, decide_eq_true_eq, if_true, if_false, ite_true, ite_false, List.nil_append, isB, String.reduceBEq, String.reduceEq, decide_true, decide_false, Bool.false_eq_true, Bool.or_false, Bool.and_false, Bool.or_true, Bool.and_true, Bool.true_and, Bool.false_and, Bool.not_true, Bool.not_false, ite_true, ite_false, reduceIte, Bool.true_or, Bool.false_or, gt_iff_lt, ge_iff_le, iM1, iM1', iM2, cut_last, cut_last2, slT, fTupL, fTupT, fListL, fInt, fIntB, wipe0, wipe1, tNs, tsNs, inT, isBl, notBl, List.all_cons, List.all_nil, List.any_cons, List.any_nil, flP, eqP, isBlB, notRef, lit_beq, List.append_nil, List.not_mem_nil, isNonB, Int.neg_neg, Int.reduceNegSucc]
    rw [slL]
    refine ⟨_, lst_got et8, ?_⟩
    rw [slL]
    refine ⟨_, lst_got (get_app et8), ?_⟩
    rw [bAddL]
    refine ⟨_, _, get_app get_new, get_new, by show 2 + 1 ≤ 16777216; omega, ?_⟩
    have hs8 := (List.getElem?_eq_some_iff.mp es8).1
    have hf8 := (List.getElem?_eq_some_iff.mp ef8).1
    refine hK _ _ ⟨P.nxt num p, sr, fr, _, _, _, _, _, _, _, rfl, get_app (get_app (get_app es8)), get_app (get_app (get_app ef8)), get_new, hb, hc, ha, hk8.trans (Kept.app.trans (Kept.app.trans Kept.app)), l1, l2, n1, ?_, ?_, ?_, ?_⟩
    · simp; omega
    · simp; omega
    · show (p.sites ++ [_] ++ [_]).length ≤ _
      simp; omega
    · rw [Nat.zero_add, show P.count - (i + 1) = n by omega]; exact ea
  · obtain ⟨p, sr, fr, tr, a12, a13, a14, a15, a16, a17, rfl, es, ef, et, ha, hb, hc, hk, l1, l2, n1, n2, n3, hsl, ea⟩ := iv
    rw [Nat.zero_add, range_len, Nat.sub_self] at ea
    simp only [evB, evS, evE, evEs, evO, evC, evT, evG, evGs, bAdd, bAddT, bSub, bMulL, bMulR, bDivL, bModL, cLt, cLe, cGt, cGe, cIs, cNot, iT0, iT1, fMin, fMax, fAbs, fLenT, tyT, tyI, tyB, tyS, truB, truI, ex_int, ex_bl, ex_tup, ex_some, ex_cons, eq_self, ex_var, eq_int, ne_int, eq_lit, ne_lit, startL, List.map_cons, List.map_nil, List.cons_append, List.nil_append, List.length_cons, List.length_nil, List.replicate, List.getElem?_cons_zero, List.getElem?_cons_succ, List.set_cons_zero, List.set_cons_succ, lenTs, Int.reduceToNat, Int.reducePow, Int.reduceSub, Int.reduceAdd, Int.reduceMul, Int.reduceNeg, Int.reduceLT, Int.reduceLE, Int.reduceEq, Nat.reduceLT, Nat.reduceLeDiff, Nat.reduceAdd, Nat.reduceSub, Nat.reducePow, bPowL, SZ, tyOf, evI, items_ref, items_tup, live_ref, live_tup, lstOf_new, true_and, and_true, ne_eq, not_true_eq_false, not_false_eq_true, Int.cast_ofNat_Int, decide_eq_true_eq, if_true, if_false, ite_true, ite_false, List.nil_append, isB, String.reduceBEq, String.reduceEq, decide_true, decide_false, Bool.false_eq_true, Bool.or_false, Bool.and_false, Bool.or_true, Bool.and_true, Bool.true_and, Bool.false_and, Bool.not_true, Bool.not_false, ite_true, ite_false, reduceIte, Bool.true_or, Bool.false_or, gt_iff_lt, ge_iff_le, iM1, iM1', iM2, cut_last, cut_last2, slT, fTupL, fTupT, fListL, fInt, fIntB, wipe0, wipe1, tNs, tsNs, inT, isBl, notBl, List.all_cons, List.all_nil, List.any_cons, List.any_nil, flP, eqP, isBlB, notRef, lit_beq, List.append_nil, List.not_mem_nil, isNonB, Int.neg_neg, Int.reduceNegSucc]
    subst ea
    exact q _ _ hk es
end
end Py

set_option Elab.async false
set_option linter.all false
set_option maxRecDepth 100000
set_option maxHeartbeats 4000000
/-! Law 63, over the reading: remembered; alike. -/
namespace Py
open PySem
def b__law_alike_5 : B :=
  (.cons (.ret (.and (.cmp .eq (.lc (.var 4) (.nm 4) (.seq (.var 3)) (.so (.cmp .ne (.bf .repr1 (.cons (.idx (.var 4) (.int 0)) .nil)) (.bf .repr1 (.cons (.idx (.var 4) (.int 1)) .nil))))) (.lst .nil)) (.cmp .eq (.meth (.var 1) n_hits .nil) (.int 0)))) .nil)
def b__law_alike_2 : B :=
  (.cons (.asg (.nm 3) (.bin .add (.var 3) (.lst (.cons (.tup (.cons (.meth (.var 0) n_answer .nil) (.cons (.meth (.var 1) n_answer .nil) .nil))) (.cons (.tup (.cons (.meth (.var 0) n_calls .nil) (.cons (.meth (.var 1) n_calls .nil) .nil))) (.cons (.tup (.cons (.meth (.var 0) n_things .nil) (.cons (.meth (.var 1) n_things .nil) .nil))) .nil))))))
  (.cons (.asg (.nm 3) (.bin .add (.var 3) (.lst (.cons (.tup (.cons (.meth (.var 0) n_rows_done .nil) (.cons (.meth (.var 1) n_rows_done .nil) .nil))) (.cons (.tup (.cons (.bin .add (.meth (.var 0) n_looks .nil) (.meth (.var 0) n_hits .nil)) (.cons (.meth (.var 1) n_looks .nil) .nil))) .nil)))))
  (.cons (.exp (.bm .append (.var 3) (.cons (.tup (.cons (.meth (.var 0) n_frames .nil) (.cons (.meth (.var 1) n_frames .nil) .nil))) .nil))) b__law_alike_5)))
theorem b__law_alike_cut : b__law_alike =
  (.cons (.asg (.nm 3) (.ite (.cmp .eq (.bin .mod (.var 2) (.int 2)) (.int 0)) (.lst (.cons (.tup (.cons (.meth (.var 0) n_frames .nil) (.cons (.meth (.var 1) n_frames .nil) .nil))) .nil)) (.lst .nil))) b__law_alike_2) := rfl
/-- both are told alike -/
def Same (h : PH) (x y : PV) : Prop := ∃ S : Str, ∀ h', Kept h h' → (∀ Q : KQ, Q (.str S) h' → bfV .repr1 [x] h' Q) ∧ ∀ Q : KQ, Q (.str S) h' → bfV .repr1 [y] h' Q
theorem Same.kept {h h1 : PH} {x y : PV} (s : Same h x y) (k : Kept h h1) : Same h1 x y := by
  obtain ⟨S, f⟩ := s
  exact ⟨S, fun h' k' => f h' (k.trans k')⟩
theorem same_int {h : PH} {i : Int} (hi : i.natAbs < 10 ^ 20) : Same h (.int i) (.int i) := by
  have e : i.natAbs.log2 < 1920 := by
    by_cases h0 : i.natAbs = 0
    · rw [h0]; decide
    · have : i.natAbs.log2 < 70 := (Nat.log2_lt h0).mpr (by omega)
      omega
  exact ⟨_, fun h' _ => ⟨fun Q q => ⟨e, q⟩, fun Q q => ⟨e, q⟩⟩⟩
theorem same_non {h : PH} : Same h .non .non := ⟨_, fun h' _ => ⟨fun Q q => q, fun Q q => q⟩⟩
theorem same_lst {n c k a b : Nat} {xs : List PV} {h : PH} (ea : lstOf h (.ref a) = some xs) (eb : lstOf h (.ref b) = some xs) (r : ∀ x ∈ xs, Rp n c x) (hk : xs.length ≤ k) (hn : n ≤ 63) (hc : (c + 2) * k + 3 ≤ 16777216) : Same h (.ref a) (.ref b) :=
  ⟨_, fun h' hk' => ⟨fun Q q => s_reprL (lstOf_kept hk' ea) r hk hn hc q, fun Q q => s_reprL (lstOf_kept hk' eb) r hk hn hc q⟩⟩
theorem rp_end {e : PV} (o : EndOk e) : Rp 1 200 e ∧ ∃ xs, e = .tup xs := by
  cases o with
  | dry =>
    refine ⟨(Rp.tup (n := 0) (c := 20) (m := 1) (fun x hx => ?_) (by simp)).mono (Nat.le_refl _) (by omega), _, rfl⟩
    rw [List.mem_singleton.mp hx]; exact Rp.lit (by decide +kernel)
  | deep =>
    refine ⟨(Rp.tup (n := 0) (c := 20) (m := 1) (fun x hx => ?_) (by simp)).mono (Nat.le_refl _) (by omega), _, rfl⟩
    rw [List.mem_singleton.mp hx]; exact Rp.lit (by decide +kernel)
  | val hf =>
    refine ⟨(Rp.tup (n := 0) (c := 21) (m := 2) (fun x hx => ?_) (by simp)).mono (Nat.le_refl _) (by omega), _, rfl⟩
    rcases List.mem_cons.mp hx with rfl | hx
    · exact (Rp.lit (c := 20) (by decide +kernel)).mono (Nat.le_refl _) (by omega)
    · rw [List.mem_singleton.mp hx]; exact Rp.int (by omega)
theorem same_end {h : PH} {e : PV} (o : EndOk e) : Same h e e := by
  obtain ⟨r, xs, rfl⟩ := rp_end o
  exact ⟨_, fun h' _ => ⟨fun Q q => s_repr r (by omega) (by omega) q, fun Q q => s_repr r (by omega) (by omega) q⟩⟩
/-- a machine's state may be told -/
structure Shw (s : St) : Prop where
  pile : ∀ g ∈ s.pile, okFr g
  len : s.pile.length < 60
  made : okMd s.made
  ended : s.ended = .non ∨ EndOk s.ended
  cnt : s.counted.natAbs < 10 ^ 15
  gone : s.gone.natAbs < 10 ^ 15
  sought : s.sought.natAbs < 10 ^ 15
  met : s.met.natAbs < 10 ^ 15
/-- longer -/
def Ext (h H : PH) : Prop := ∃ T, H = h ++ T
theorem Ext.refl {h : PH} : Ext h h := ⟨[], by simp⟩
theorem Ext.app {h H t : PH} (e : Ext h H) : Ext h (H ++ t) := by
  obtain ⟨T, rfl⟩ := e
  exact ⟨T ++ t, by rw [List.append_assoc]⟩
theorem Ext.trans {h h1 h2 : PH} (a : Ext h h1) (b : Ext h1 h2) : Ext h h2 := by
  obtain ⟨T, rfl⟩ := b
  exact a.app
theorem Ext.set {h H : PH} {a : Nat} {o : PO} (e : Ext h H) (l : h.length ≤ a) : Ext h (H.set a o) := by
  obtain ⟨T, rfl⟩ := e
  exact ⟨T.set (a - h.length) o, by rw [List.set_append_right _ _ l]⟩
theorem Ext.kept {h H : PH} (e : Ext h H) : Kept h H := by
  obtain ⟨T, rfl⟩ := e
  exact Kept.app
section
variable {C1 C2 : Cf} {Fp1 Fp2 : Nat → Prop} {n1 n2 k : Nat} {h : PH} {p1 ac1 ah1 sp1 ap1 am1 d1 : Nat} {th1 : List Nat} {p2 ac2 ah2 sp2 ap2 am2 d2 : Nat} {th2 : List Nat} {s t : St} {Q : KQ} {X : KX} {D : En} {pr : Nat} {ps : List PV} {bits : Int} {a4 : Option PV}
def Alike (h : PH) (ps : List PV) : Prop := ∀ z ∈ ps, ∃ x y, z = .tup [x, y] ∧ Same h x y
theorem Alike.kept {h1 : PH} (a : Alike h ps) (k : Kept h h1) : Alike h1 ps := fun z hz => by
  obtain ⟨x, y, e, s⟩ := a z hz
  exact ⟨x, y, e, s.kept k⟩
theorem same_frames {a b : Nat} (S : Shw s) (ea : h[a]? = some (.lst (s.pile.map Fr.v))) (eb : h[b]? = some (.lst (s.pile.map Fr.v))) : Same h (.ref a) (.ref b) := by
  refine same_lst (n := 3) (c := 2600) (k := 60) (lst_got ea) (lst_got eb) (fun x hx => ?_) (by rw [List.length_map]; have := S.len; omega) (by omega) (by omega)
  obtain ⟨g, hg, rfl⟩ := List.mem_map.mp hx
  exact (S.pile g hg).rp
theorem alike5 (M1 : MC C1 Fp1 n1 h p1 ac1 ah1 sp1 ap1 am1 d1 th1 s) (M2 : MC C2 Fp2 n2 h p2 ac2 ah2 sp2 ap2 am2 d2 th2 t) (L : Like s t) (e : h[pr]? = some (.lst ps)) (al : Alike h ps) (hz : ps.length ≤ 20) (q : ∀ H, Ext h H → D.rt (.bl true) H) :
    evB sgT (callS sgT (k + 1)) b__law_alike_5 [some (.ref p1), some (.ref p2), some (.int bits), some (.ref pr), a4] h D := by
  simp only [evB, evS, evE, evEs, evO, evC, evT, evG, evGs, bAdd, bAddT, bSub, bMulL, bMulR, bDivL, bModL, cLt, cLe, cGt, cGe, cIs, cNot, iT0, iT1, fMin, fMax, fAbs, fLenT, tyT, tyI, tyB, tyS, truB, truI, ex_int, ex_bl, ex_tup, ex_some, ex_cons, eq_self, ex_var, eq_int, ne_int, eq_lit, ne_lit, startL, List.map_cons, List.map_nil, List.cons_append, List.nil_append, List.length_cons, List.length_nil, List.replicate, List.getElem?_cons_zero, List.getElem?_cons_succ, List.set_cons_zero, List.set_cons_succ, lenTs, Int.reduceToNat, Int.reducePow, Int.reduceSub, Int.reduceAdd, Int.reduceMul, Int.reduceNeg, Int.reduceLT, Int.reduceLE, Int.reduceEq, Nat.reduceLT, Nat.reduceLeDiff, Nat.reduceAdd, Nat.reduceSub, Nat.reducePow, bPowL, SZ, tyOf, evI, items_ref, items_tup, live_ref, live_tup, lstOf_new, true_and, and_true, ne_eq, not_true_eq_false, not_false_eq_true, Int.cast_ofNat_Int, decide_eq_true_eq, if_true, if_false, ite_true, ite_false, List.nil_append, isB, String.reduceBEq, String.reduceEq, decide_true, decide_false, Bool.false_eq_true, Bool.or_false, Bool.and_false, Bool.or_true, Bool.and_true, Bool.true_and, Bool.false_and, Bool.not_true, Bool.not_false, ite_true, ite_false, reduceIte, Bool.true_or, Bool.false_or, gt_iff_lt, ge_iff_le, iM1, iM1', iM2, cut_last, cut_last2, slT, fTupL, fTupT, fListL, fInt, fIntB, wipe0, wipe1, tNs, tsNs, inT, isBl, notBl, List.all_cons, List.all_nil, List.any_cons, List.any_nil, flP, eqP, isBlB, notRef, lit_beq, List.append_nil, List.not_mem_nil, isNonB, Int.neg_neg, Int.reduceNegSucc, b__law_alike_5]
  refine ⟨_, lst_got e, ?_⟩
  refine comp_fun (fun _ => none) (fun _ => lstOf_app (lst_got e)) _ [] (fun z hz acc K hk => ?_) (by show _ ≤ 16777216; simp; omega) ?_
  · obtain ⟨x, y, rfl, S, f⟩ := al z hz
    obtain ⟨f1, f2⟩ := f (h ++ [.lst acc]) Kept.app
    simp only [evB, evS, evE, evEs, evO, evC, evT, evG, evGs, bAdd, bAddT, bSub, bMulL, bMulR, bDivL, bModL, cLt, cLe, cGt, cGe, cIs, cNot, iT0, iT1, fMin, fMax, fAbs, fLenT, tyT, tyI, tyB, tyS, truB, truI, ex_int, ex_bl, ex_tup, ex_some, ex_cons, eq_self, ex_var, eq_int, ne_int, eq_lit, ne_lit, startL, List.map_cons, List.map_nil, List.cons_append, List.nil_append, List.length_cons, List.length_nil, List.replicate, List.getElem?_cons_zero, List.getElem?_cons_succ, List.set_cons_zero, List.set_cons_succ, lenTs, Int.reduceToNat, Int.reducePow, Int.reduceSub, Int.reduceAdd, Int.reduceMul, Int.reduceNeg, Int.reduceLT, Int.reduceLE, Int.reduceEq, Nat.reduceLT, Nat.reduceLeDiff, Nat.reduceAdd, Nat.reduceSub, Nat.reducePow, bPowL, SZ, tyOf, evI, items_ref, items_tup, live_ref, live_tup, lstOf_new, true_and, and_true, ne_eq, not_true_eq_false, not_false_eq_true, Int.cast_ofNat_Int, decide_eq_true_eq, if_true, if_false, ite_true, ite_false, List.nil_append, isB, String.reduceBEq, String.reduceEq, decide_true, decide_false, Bool.false_eq_true, Bool.or_false, Bool.and_false, Bool.or_true, Bool.and_true, Bool.true_and, Bool.false_and, Bool.not_true, Bool.not_false, ite_true, ite_false, reduceIte, Bool.true_or, Bool.false_or, gt_iff_lt, ge_iff_le, iM1, iM1', iM2, cut_last, cut_last2, slT, fTupL, fTupT, fListL, fInt, fIntB, wipe0, wipe1, tNs, tsNs, inT, isBl, notBl, List.all_cons, List.all_nil, List.any_cons, List.any_nil, flP, eqP, isBlB, notRef, lit_beq, List.append_nil, List.not_mem_nil, isNonB, Int.neg_neg, Int.reduceNegSucc]
    refine f1 _ (f2 _ ?_)
    show (if (!decide (S = S)) = true then _ else _)
    rw [decide_eq_true rfl, if_neg (by decide)]
    exact hk
  · have e0 : ([] : List PV) ++ ps.filterMap (fun _ => (none : Option PV)) = [] := by simp
    rw [e0]
    refine eq_lists (xs := []) (ys := []) (lst_got (get_app get_new)) lstOf_new rfl rfl rfl rfl ?_
    rw [if_pos (by decide)]
    have M3 := (M2.app (t := [PO.lst []])).app (t := [PO.lst []])
    rw [ex_meth M3.ins c_Machine (show getM n_hits cMachine.meths = some n_Machine_hits from rfl), e_hits M3, L.met]
    simp only [evB, evS, evE, evEs, evO, evC, evT, evG, evGs, bAdd, bAddT, bSub, bMulL, bMulR, bDivL, bModL, cLt, cLe, cGt, cGe, cIs, cNot, iT0, iT1, fMin, fMax, fAbs, fLenT, tyT, tyI, tyB, tyS, truB, truI, ex_int, ex_bl, ex_tup, ex_some, ex_cons, eq_self, ex_var, eq_int, ne_int, eq_lit, ne_lit, startL, List.map_cons, List.map_nil, List.cons_append, List.nil_append, List.length_cons, List.length_nil, List.replicate, List.getElem?_cons_zero, List.getElem?_cons_succ, List.set_cons_zero, List.set_cons_succ, lenTs, Int.reduceToNat, Int.reducePow, Int.reduceSub, Int.reduceAdd, Int.reduceMul, Int.reduceNeg, Int.reduceLT, Int.reduceLE, Int.reduceEq, Nat.reduceLT, Nat.reduceLeDiff, Nat.reduceAdd, Nat.reduceSub, Nat.reducePow, bPowL, SZ, tyOf, evI, items_ref, items_tup, live_ref, live_tup, lstOf_new, true_and, and_true, ne_eq, not_true_eq_false, not_false_eq_true, Int.cast_ofNat_Int, decide_eq_true_eq, if_true, if_false, ite_true, ite_false, List.nil_append, isB, String.reduceBEq, String.reduceEq, decide_true, decide_false, Bool.false_eq_true, Bool.or_false, Bool.and_false, Bool.or_true, Bool.and_true, Bool.true_and, Bool.false_and, Bool.not_true, Bool.not_false, ite_true, ite_false, reduceIte, Bool.true_or, Bool.false_or, gt_iff_lt, ge_iff_le, iM1, iM1', iM2, cut_last, cut_last2, slT, fTupL, fTupT, fListL, fInt, fIntB, wipe0, wipe1, tNs, tsNs, inT, isBl, notBl, List.all_cons, List.all_nil, List.any_cons, List.any_nil, flP, eqP, isBlB, notRef, lit_beq, List.append_nil, List.not_mem_nil, isNonB, Int.neg_neg, Int.reduceNegSucc]
    exact q _ (Ext.refl.app.app)
theorem alike2 (S : Shw s) (M1 : MC C1 Fp1 n1 h p1 ac1 ah1 sp1 ap1 am1 d1 th1 s) (M2 : MC C2 Fp2 n2 h p2 ac2 ah2 sp2 ap2 am2 d2 th2 t) (L : Like s t) (e : h[pr]? = some (.lst ps)) (al : Alike h ps) (hz : ps.length ≤ 2) (q : ∀ H, Ext h H → D.rt (.bl true) H) :
    evB sgT (callS sgT (k + 1)) b__law_alike_2 [some (.ref p1), some (.ref p2), some (.int bits), some (.ref pr), a4] h D := by
  simp only [evB, evS, evE, evEs, evO, evC, evT, evG, evGs, bAdd, bAddT, bSub, bMulL, bMulR, bDivL, bModL, cLt, cLe, cGt, cGe, cIs, cNot, iT0, iT1, fMin, fMax, fAbs, fLenT, tyT, tyI, tyB, tyS, truB, truI, ex_int, ex_bl, ex_tup, ex_some, ex_cons, eq_self, ex_var, eq_int, ne_int, eq_lit, ne_lit, startL, List.map_cons, List.map_nil, List.cons_append, List.nil_append, List.length_cons, List.length_nil, List.replicate, List.getElem?_cons_zero, List.getElem?_cons_succ, List.set_cons_zero, List.set_cons_succ, lenTs, Int.reduceToNat, Int.reducePow, Int.reduceSub, Int.reduceAdd, Int.reduceMul, Int.reduceNeg, Int.reduceLT, Int.reduceLE, Int.reduceEq, Nat.reduceLT, Nat.reduceLeDiff, Nat.reduceAdd, Nat.reduceSub, Nat.reducePow, bPowL, SZ, tyOf, evI, items_ref, items_tup, live_ref, live_tup, lstOf_new, true_and, and_true, ne_eq, not_true_eq_false, not_false_eq_true, Int.cast_ofNat_Int, decide_eq_true_eq, if_true, if_false, ite_true, ite_false, List.nil_append, isB, String.reduceBEq, String.reduceEq, decide_true, decide_false, Bool.false_eq_true, Bool.or_false, Bool.and_false, Bool.or_true, Bool.and_true, Bool.true_and, Bool.false_and, Bool.not_true, Bool.not_false, ite_true, ite_false, reduceIte, Bool.true_or, Bool.false_or, gt_iff_lt, ge_iff_le, iM1, iM1', iM2, cut_last, cut_last2, slT, fTupL, fTupT, fListL, fInt, fIntB, wipe0, wipe1, tNs, tsNs, inT, isBl, notBl, List.all_cons, List.all_nil, List.any_cons, List.any_nil, flP, eqP, isBlB, notRef, lit_beq, List.append_nil, List.not_mem_nil, isNonB, Int.neg_neg, Int.reduceNegSucc, b__law_alike_2]
  rw [ex_meth M1.ins c_Machine (show getM n_answer cMachine.meths = some n_Machine_answer from rfl), e_answer M1]
  rw [ex_meth M2.ins c_Machine (show getM n_answer cMachine.meths = some n_Machine_answer from rfl), e_answer M2, L.ended]
  rw [ex_meth M1.ins c_Machine (show getM n_calls cMachine.meths = some n_Machine_calls from rfl), e_calls M1]
  rw [ex_meth M2.ins c_Machine (show getM n_calls cMachine.meths = some n_Machine_calls from rfl), e_calls M2, L.cnt]
  rw [ex_meth M1.ins c_Machine (show getM n_things cMachine.meths = some n_Machine_things from rfl)]
  refine e_things M1 ?_
  have M3 := M1.app (t := [PO.lst s.made])
  have M4 := M2.app (t := [PO.lst s.made])
  rw [ex_meth M4.ins c_Machine (show getM n_things cMachine.meths = some n_Machine_things from rfl)]
  refine e_things M4 ?_
  rw [L.made, bAddL]
  have e3 : (h ++ [PO.lst s.made])[h.length]? = some (.lst s.made) := get_new
  refine ⟨_, _, get_app (get_app (get_app e)), get_new, by show _ ≤ 16777216; simp; omega, ?_⟩
  have sm : Same (h ++ [PO.lst s.made] ++ [PO.lst s.made]) (.ref h.length) (.ref (h ++ [PO.lst s.made]).length) := same_lst (n := 3) (c := 400) (k := 10) (lst_got (get_app e3)) lstOf_new S.made.rp S.made.len (by omega) (by omega)
  have se : Same h s.ended s.ended := by
    rcases S.ended with z | z
    · rw [z]; exact same_non
    · exact same_end z
  have al1 : Alike (h ++ [PO.lst s.made] ++ [PO.lst s.made]) (ps ++ [PV.tup [s.ended, s.ended], PV.tup [PV.int s.counted, PV.int s.counted], PV.tup [PV.ref h.length, PV.ref (h ++ [PO.lst s.made]).length]]) := by
    intro z hz
    rcases List.mem_append.mp hz with hz | hz
    · exact al.kept (Kept.app.trans Kept.app) z hz
    rcases List.mem_cons.mp hz with rfl | hz
    · exact ⟨_, _, rfl, se.kept (Kept.app.trans Kept.app)⟩
    rcases List.mem_cons.mp hz with rfl | hz
    · exact ⟨_, _, rfl, same_int (by have := S.cnt; omega)⟩
    · rw [List.mem_singleton.mp hz]; exact ⟨_, _, rfl, sm⟩
  have E1 : Ext h (h ++ [PO.lst s.made] ++ [PO.lst s.made]) := Ext.refl.app.app
  generalize (h ++ [PO.lst s.made]).length = tb at al1 ⊢
  generalize h ++ [PO.lst s.made] ++ [PO.lst s.made] = H1 at al1 E1 ⊢
  generalize eps : ps ++ [PV.tup [s.ended, s.ended], PV.tup [PV.int s.counted, PV.int s.counted], PV.tup [PV.ref h.length, PV.ref tb]] = ps1 at al1 ⊢
  have hz1 : ps1.length ≤ 5 := by rw [← eps]; simp; omega
  generalize [PO.lst [PV.tup [s.ended, s.ended], PV.tup [PV.int s.counted, PV.int s.counted], PV.tup [PV.ref h.length, PV.ref tb]]] = T1
  have E2 : Ext h (H1 ++ T1) := E1.app
  have al2 : Alike (H1 ++ T1) ps1 := al1.kept Kept.app
  generalize H1 ++ T1 = H2 at al2 E2 ⊢
  have e4 : (H2 ++ [PO.lst ps1])[H2.length]? = some (.lst ps1) := get_new
  have E3 : Ext h (H2 ++ [PO.lst ps1]) := E2.app
  have al3 : Alike (H2 ++ [PO.lst ps1]) ps1 := al2.kept Kept.app
  generalize H2 ++ [PO.lst ps1] = H3 at e4 E3 al3 ⊢
  generalize H2.length = pr3 at e4 ⊢
  have M5 := M1.frame (h' := H3) fun a o _ e => E3.kept a o e
  have M6 := M2.frame (h' := H3) fun a o _ e => E3.kept a o e
  rw [ex_meth M5.ins c_Machine (show getM n_rows_done cMachine.meths = some n_Machine_rows_done from rfl), e_rows M5]
  rw [ex_meth M6.ins c_Machine (show getM n_rows_done cMachine.meths = some n_Machine_rows_done from rfl), e_rows M6, L.gone]
  rw [ex_meth M5.ins c_Machine (show getM n_looks cMachine.meths = some n_Machine_looks from rfl), e_looks M5]
  rw [ex_meth M5.ins c_Machine (show getM n_hits cMachine.meths = some n_Machine_hits from rfl), e_hits M5, bAdd]
  rw [ex_meth M6.ins c_Machine (show getM n_looks cMachine.meths = some n_Machine_looks from rfl), e_looks M6, L.sought, bAddL]
  refine ⟨_, _, get_app e4, get_new, by show _ ≤ 16777216; simp; omega, ?_⟩
  have al4 : Alike H3 (ps1 ++ [PV.tup [PV.int s.gone, PV.int s.gone], PV.tup [PV.int (s.sought + s.met), PV.int (s.sought + s.met)]]) := by
    intro z hz
    rcases List.mem_append.mp hz with hz | hz
    · exact al3 z hz
    rcases List.mem_cons.mp hz with rfl | hz
    · exact ⟨_, _, rfl, same_int (by have := S.gone; omega)⟩
    · rw [List.mem_singleton.mp hz]; exact ⟨_, _, rfl, same_int (by have := S.sought; have := S.met; omega)⟩
  generalize eps2 : ps1 ++ [PV.tup [PV.int s.gone, PV.int s.gone], PV.tup [PV.int (s.sought + s.met), PV.int (s.sought + s.met)]] = ps2 at al4 ⊢
  have hz2 : ps2.length ≤ 7 := by rw [← eps2]; simp; omega
  generalize [PO.lst [PV.tup [PV.int s.gone, PV.int s.gone], PV.tup [PV.int (s.sought + s.met), PV.int (s.sought + s.met)]]] = T2
  have E4 : Ext h (H3 ++ T2) := E3.app
  have K4 : Kept H3 (H3 ++ T2) := Kept.app
  generalize H3 ++ T2 = H4 at K4 E4 ⊢
  have e5 : (H4 ++ [PO.lst ps2])[H4.length]? = some (.lst ps2) := get_new
  have E5 : Ext h (H4 ++ [PO.lst ps2]) := E4.app
  have K5 : Kept H3 (H4 ++ [PO.lst ps2]) := K4.trans Kept.app
  have l3 : H3.length ≤ H4.length := K4.le
  have hpr : h.length ≤ H4.length := E4.kept.le
  generalize H4 ++ [PO.lst ps2] = H5 at e5 E5 K5 ⊢
  generalize H4.length = pr4 at e5 hpr l3 ⊢
  refine ⟨ty_get e5, ?_⟩
  have M7 := M1.frame (h' := H5) fun a o _ e => E5.kept a o e
  have M8 := M2.frame (h' := H5) fun a o _ e => E5.kept a o e
  rw [ex_meth M7.ins c_Machine (show getM n_frames cMachine.meths = some n_Machine_frames from rfl)]
  refine e_frames M7 ?_
  have M9 := M8.app (t := [PO.lst (s.pile.map Fr.v)])
  rw [ex_meth M9.ins c_Machine (show getM n_frames cMachine.meths = some n_Machine_frames from rfl)]
  refine e_frames M9 ?_
  rw [L.pile, mApp]
  refine ⟨_, get_app (get_app e5), by show _ < 16777216; omega, ?_⟩
  have g1 : (H5 ++ [PO.lst (s.pile.map Fr.v)] ++ [PO.lst (s.pile.map Fr.v)])[H5.length]? = some (.lst (s.pile.map Fr.v)) := get_app get_new
  have g2 : (H5 ++ [PO.lst (s.pile.map Fr.v)] ++ [PO.lst (s.pile.map Fr.v)])[(H5 ++ [PO.lst (s.pile.map Fr.v)]).length]? = some (.lst (s.pile.map Fr.v)) := get_new
  have hlt := (List.getElem?_eq_some_iff.mp e5).1
  have E6 : Ext h ((H5 ++ [PO.lst (s.pile.map Fr.v)] ++ [PO.lst (s.pile.map Fr.v)]).set pr4 (.lst (ps2 ++ [PV.tup [PV.ref H5.length, PV.ref (H5 ++ [PO.lst (s.pile.map Fr.v)]).length]]))) := E5.app.app.set hpr
  have M10 := M1.frame (h' := _) fun a o _ e => E6.kept a o e
  have M11 := M2.frame (h' := _) fun a o _ e => E6.kept a o e
  refine alike5 M10 M11 L (List.getElem?_set_self (by simp; omega)) (fun z hz => ?_) (by simp; omega) fun H hH => q H (E6.trans hH)
  rcases List.mem_append.mp hz with hz | hz
  · exact al4.kept ((K5.trans (Kept.app.trans Kept.app)).set l3) z hz
  · rw [List.mem_singleton.mp hz]
    exact ⟨_, _, rfl, same_frames S (get_set_ne g1 (by omega)) (get_set_ne g2 (by simp; omega))⟩
theorem s_alike (S : Shw s) (M1 : MC C1 Fp1 n1 h p1 ac1 ah1 sp1 ap1 am1 d1 th1 s) (M2 : MC C2 Fp2 n2 h p2 ac2 ah2 sp2 ap2 am2 d2 th2 t) (L : Like s t) (q : ∀ H, Ext h H → Q (.bl true) H) : callS sgT (k + 2) (.fn n__law_alike) [.ref p1, .ref p2, .int bits] h Q X := by
  rw [call_in (d := d__law_alike) rfl rfl]
  have eb : d__law_alike.body = _ := b__law_alike_cut
  rw [eb]
  simp only [evB, evS, evE, evEs, evO, evC, evT, evG, evGs, bAdd, bAddT, bSub, bMulL, bMulR, bDivL, bModL, cLt, cLe, cGt, cGe, cIs, cNot, iT0, iT1, fMin, fMax, fAbs, fLenT, tyT, tyI, tyB, tyS, truB, truI, ex_int, ex_bl, ex_tup, ex_some, ex_cons, eq_self, ex_var, eq_int, ne_int, eq_lit, ne_lit, startL, List.map_cons, List.map_nil, List.cons_append, List.nil_append, List.length_cons, List.length_nil, List.replicate, List.getElem?_cons_zero, List.getElem?_cons_succ, List.set_cons_zero, List.set_cons_succ, lenTs, Int.reduceToNat, Int.reducePow, Int.reduceSub, Int.reduceAdd, Int.reduceMul, Int.reduceNeg, Int.reduceLT, Int.reduceLE, Int.reduceEq, Nat.reduceLT, Nat.reduceLeDiff, Nat.reduceAdd, Nat.reduceSub, Nat.reducePow, bPowL, SZ, tyOf, evI, items_ref, items_tup, live_ref, live_tup, lstOf_new, true_and, and_true, ne_eq, not_true_eq_false, not_false_eq_true, Int.cast_ofNat_Int, decide_eq_true_eq, if_true, if_false, ite_true, ite_false, List.nil_append, isB, String.reduceBEq, String.reduceEq, decide_true, decide_false, Bool.false_eq_true, Bool.or_false, Bool.and_false, Bool.or_true, Bool.and_true, Bool.true_and, Bool.false_and, Bool.not_true, Bool.not_false, ite_true, ite_false, reduceIte, Bool.true_or, Bool.false_or, gt_iff_lt, ge_iff_le, iM1, iM1', iM2, cut_last, cut_last2, slT, fTupL, fTupT, fListL, fInt, fIntB, wipe0, wipe1, tNs, tsNs, inT, isBl, notBl, List.all_cons, List.all_nil, List.any_cons, List.any_nil, flP, eqP, isBlB, notRef, lit_beq, List.append_nil, List.not_mem_nil, isNonB, Int.neg_neg, Int.reduceNegSucc, d__law_alike]
  split
  · rw [ex_meth M1.ins c_Machine (show getM n_frames cMachine.meths = some n_Machine_frames from rfl)]
    refine e_frames M1 ?_
    have M3 := M2.app (t := [PO.lst (s.pile.map Fr.v)])
    rw [ex_meth M3.ins c_Machine (show getM n_frames cMachine.meths = some n_Machine_frames from rfl)]
    refine e_frames M3 ?_
    rw [L.pile]
    have g1 : (h ++ [PO.lst (s.pile.map Fr.v)])[h.length]? = some (.lst (s.pile.map Fr.v)) := get_new
    refine alike2 S M1.app.app.app M2.app.app.app L get_new (fun z hz => ?_) (by simp) fun H hH => q H (Ext.refl.app.app.app.trans hH)
    rw [List.mem_singleton.mp hz]
    exact ⟨_, _, rfl, same_frames S (get_app (get_app g1)) (get_app get_new)⟩
  · exact alike2 S M1.app M2.app L get_new (fun z hz => by cases hz) (by simp) fun H hH => q H (Ext.refl.app.trans hH)
end
end Py

set_option Elab.async false
set_option linter.all false
set_option maxRecDepth 100000
set_option maxHeartbeats 4000000
/-! Law 63, over the reading: what is remembered, by the law. -/
namespace Py
open PySem
theorem any_int {l : List Int} {a : Int} : ((l.map PV.int).any fun z => eqP z (.int a)) = decide (a ∈ l) := by
  induction l with
  | nil => rfl
  | cons x r ih =>
    rw [List.map_cons, List.any_cons, ih]
    show ((x == a) || _) = _
    by_cases h : x = a
    · subst h; simp
    · have : ¬ a = x := fun z => h z.symm
      simp [h, this]
theorem all_int {l : List Int} : (l.map PV.int).all flP = true := by
  induction l with
  | nil => rfl
  | cons x r ih => rw [List.map_cons, List.all_cons, ih]; rfl
theorem putD_len {k v : PV} {kvs : List (PV × PV)} : (putD k v kvs).length ≤ kvs.length + 1 := by
  unfold putD
  split <;> simp
theorem mem_take {ss : List (Int × Int)} {i : Nat} {e : Int × Int} (h : ss[i]? = some e) : mem (ss.take (i + 1)) = memS (mem (ss.take i)) e := by
  rw [List.take_succ, h]; exact mem_snoc
def nqF (a : Int) : PV → Option PV
  | .int i => if i ≠ a then some (.int i) else none
  | _ => none
theorem nq_map {l : List Int} {a : Int} : (l.map PV.int).filterMap (nqF a) = (l.filter fun z => !decide (z = a)).map PV.int := by
  induction l with
  | nil => rfl
  | cons x r ih =>
    rw [List.map_cons]
    by_cases h : x = a
    · rw [List.filterMap_cons_none (by show (if x ≠ a then _ else _) = _; rw [if_neg (by simpa using h)]), ih]
      simp [h]
    · rw [List.filterMap_cons_some (by show (if x ≠ a then _ else _) = _; rw [if_pos h]), ih]
      simp [h]
section
variable {k : Nat} {h : PH} {Q : KQ} {X : KX}
theorem s_remembered {sites : List (Int × Int)} {sr : Nat} (es : h[sr]? = some (.lst (sites.map sv))) (hl : sites.length ≤ 1000) (q : ∀ h' r, Kept h h' → h'[r]? = some (.lst [.int ((sites.length : Int) - (mem sites).2), .int ((mem sites).2 : Nat)]) → Q (.ref r) h') :
    callS sgT (k + 1) (.fn n__law_remembered) [.ref sr] h Q X := by
  rw [call_in (d := d__law_remembered) rfl rfl]
  simp only [evB, evS, evE, evEs, evO, evC, evT, evG, evGs, bAdd, bAddT, bSub, bMulL, bMulR, bDivL, bModL, cLt, cLe, cGt, cGe, cIs, cNot, iT0, iT1, fMin, fMax, fAbs, fLenT, tyT, tyI, tyB, tyS, truB, truI, ex_int, ex_bl, ex_tup, ex_some, ex_cons, eq_self, ex_var, eq_int, ne_int, eq_lit, ne_lit, startL, List.map_cons, List.map_nil, List.cons_append, List.nil_append, List.length_cons, List.length_nil, List.replicate, List.getElem?_cons_zero, List.getElem?_cons_succ, List.set_cons_zero, List.set_cons_succ, lenTs, Int.reduceToNat, Int.reducePow, Int.reduceSub, Int.reduceAdd, Int.reduceMul, Int.reduceNeg, Int.reduceLT, Int.reduceLE, Int.reduceEq, Nat.reduceLT, Nat.reduceLeDiff, Nat.reduceAdd, Nat.reduceSub, Nat.reducePow, bPowL, SZ, tyOf, evI, items_ref, items_tup, live_ref, live_tup, lstOf_new, true_and, and_true, ne_eq, not_true_eq_false, not_false_eq_true, Int.cast_ofNat_Int, decide_eq_true_eq, if_true, if_false, ite_true, ite_false, List.nil_append, isB, String.reduceBEq, String.reduceEq, decide_true, decide_false, Bool.false_eq_true, Bool.or_false, Bool.and_false, Bool.or_true, Bool.and_true, Bool.true_and, Bool.false_and, Bool.not_true, Bool.not_false, ite_true, ite_false, reduceIte, Bool.true_or, Bool.false_or, gt_iff_lt, ge_iff_le, iM1, iM1', iM2, cut_last, cut_last2, slT, fTupL, fTupT, fListL, fInt, fIntB, wipe0, wipe1, tNs, tsNs, inT, isBl, notBl, List.all_cons, List.all_nil, List.any_cons, List.any_nil, flP, eqP, isBlB, notRef, lit_beq, List.append_nil, List.not_mem_nil, isNonB, Int.neg_neg, Int.reduceNegSucc, d__law_remembered, b__law_remembered]
  refine ⟨_, lst_got (get_app es), ?_⟩
  refine iter_invN (fun i l h' => ∃ (a3 a4 a5 a6 : Option PV) (kvs : List (PV × PV)), l = [some (.ref sr), some (.ref h.length), some (.int ((mem (sites.take i)).2 : Nat)), a3, a4, a5, a6] ∧ Kept h h' ∧ h'[h.length]? = some (.dic kvs) ∧ kvs.length ≤ i ∧
      ∀ x : Int, (lookD (.int x) kvs = none ∧ (mem (sites.take i)).1 x = []) ∨ (∃ z, lookD (.int x) kvs = some (.ref z) ∧ h'[z]? = some (.lst (((mem (sites.take i)).1 x).map PV.int)) ∧ z ≠ h.length))
    (fun i l h' iv => by obtain ⟨_, _, _, _, _, _, hk, _⟩ := iv; exact lst_got (hk _ _ es)) _ 0 (fun i x hx l h2 K iv hK => ?_) (fun l h2 iv => ?_) _ _ ⟨_, _, _, _, _, rfl, Kept.app, get_new, Nat.le_refl _, fun x => .inl ⟨rfl, rfl⟩⟩
  · obtain ⟨a3, a4, a5, a6, kvs, rfl, hk, hd, hn, hrow⟩ := iv
    rw [Nat.zero_add] at hn hrow
    rw [List.getElem?_map] at hx
    obtain ⟨e, he, rfl⟩ := Option.map_eq_some_iff.mp hx
    have hlen : i < sites.length := (List.getElem?_eq_some_iff.mp he).1
    have hmt := mem_take he
    obtain ⟨x, a⟩ := e
    rw [Nat.zero_add]
    have hm := mem_ok (sites.take i)
    generalize hM : mem (sites.take i) = M at hrow hmt hm ⊢
    unfold sv
    simp only [evB, evS, evE, evEs, evO, evC, evT, evG, evGs, bAdd, bAddT, bSub, bMulL, bMulR, bDivL, bModL, cLt, cLe, cGt, cGe, cIs, cNot, iT0, iT1, fMin, fMax, fAbs, fLenT, tyT, tyI, tyB, tyS, truB, truI, ex_int, ex_bl, ex_tup, ex_some, ex_cons, eq_self, ex_var, eq_int, ne_int, eq_lit, ne_lit, startL, List.map_cons, List.map_nil, List.cons_append, List.nil_append, List.length_cons, List.length_nil, List.replicate, List.getElem?_cons_zero, List.getElem?_cons_succ, List.set_cons_zero, List.set_cons_succ, lenTs, Int.reduceToNat, Int.reducePow, Int.reduceSub, Int.reduceAdd, Int.reduceMul, Int.reduceNeg, Int.reduceLT, Int.reduceLE, Int.reduceEq, Nat.reduceLT, Nat.reduceLeDiff, Nat.reduceAdd, Nat.reduceSub, Nat.reducePow, bPowL, SZ, tyOf, evI, items_ref, items_tup, live_ref, live_tup, lstOf_new, true_and, and_true, ne_eq, not_true_eq_false, not_false_eq_true, Int.cast_ofNat_Int, decide_eq_true_eq, if_true, if_false, ite_true, ite_false, List.nil_append, isB, String.reduceBEq, String.reduceEq, decide_true, decide_false, Bool.false_eq_true, Bool.or_false, Bool.and_false, Bool.or_true, Bool.and_true, Bool.true_and, Bool.false_and, Bool.not_true, Bool.not_false, ite_true, ite_false, reduceIte, Bool.true_or, Bool.false_or, gt_iff_lt, ge_iff_le, iM1, iM1', iM2, cut_last, cut_last2, slT, fTupL, fTupT, fListL, fInt, fIntB, wipe0, wipe1, tNs, tsNs, inT, isBl, notBl, List.all_cons, List.all_nil, List.any_cons, List.any_nil, flP, eqP, isBlB, notRef, lit_beq, List.append_nil, List.not_mem_nil, isNonB, Int.neg_neg, Int.reduceNegSucc]
    have hdl := (List.getElem?_eq_some_iff.mp hd).1
    have row : ∃ r, (lookD (.int x) kvs).getD (.ref h2.length) = .ref r ∧ (h2 ++ [PO.lst []])[r]? = some (.lst ((M.1 x).map PV.int)) ∧ r ≠ h.length := by
      rcases hrow x with ⟨e1, e2⟩ | ⟨z, e1, e2, e3⟩
      · rw [e1, e2]; exact ⟨_, rfl, get_new, by omega⟩
      · rw [e1]; exact ⟨_, rfl, get_app e2, e3⟩
    obtain ⟨r, er, er2, er3⟩ := row
    refine ⟨by unfold tyN; dsimp only; rw [hd], ?_⟩
    rw [ex_dget (get_app hd) rfl]
    rw [er]
    refine ⟨_, lst_got er2, rfl, all_int, ?_⟩
    rw [any_int]
    have hlen2 : (M.1 x).length ≤ 2 := by
      rcases hm x with e | ⟨_, e⟩ | ⟨_, _, e, _⟩ <;> rw [e] <;> simp
    have hd3 := get_app (t := [PO.lst []]) hd
    have hk3 : Kept h2 (h2 ++ [PO.lst []]) := Kept.app
    have l3 : h2.length < (h2 ++ [PO.lst []]).length := by simp
    generalize h2 ++ [PO.lst []] = h3 at er2 hd3 hk3 l3 ⊢
    have e2 : (memS M (x, a)).2 = if a ∈ M.1 x then M.2 + 1 else M.2 := rfl
    have e1 : ∀ y, (memS M (x, a)).1 y = if y = x then (a :: (M.1 x).filter fun z => !decide (z = a)).take 2 else M.1 y := fun _ => rfl
    have body : ∀ (z : PV), z ∈ (M.1 x).map PV.int → ∀ (acc : List PV) (KK : Option PV → PH → Prop), KK (nqF a z) (h3 ++ [PO.lst [PV.int a]] ++ [PO.lst acc]) → cmpV CO.ne z (.int a) (h3 ++ [PO.lst [PV.int a]] ++ [PO.lst acc]) fun b h4 => if b = true then KK (some z) h4 else KK none h4 := fun z hz acc KK hKK => by
      obtain ⟨m, _, rfl⟩ := List.mem_map.mp hz
      generalize h3 ++ [PO.lst [PV.int a]] ++ [PO.lst acc] = hh at hKK ⊢
      simp only [evB, evS, evE, evEs, evO, evC, evT, evG, evGs, bAdd, bAddT, bSub, bMulL, bMulR, bDivL, bModL, cLt, cLe, cGt, cGe, cIs, cNot, iT0, iT1, fMin, fMax, fAbs, fLenT, tyT, tyI, tyB, tyS, truB, truI, ex_int, ex_bl, ex_tup, ex_some, ex_cons, eq_self, ex_var, eq_int, ne_int, eq_lit, ne_lit, startL, List.map_cons, List.map_nil, List.cons_append, List.nil_append, List.length_cons, List.length_nil, List.replicate, List.getElem?_cons_zero, List.getElem?_cons_succ, List.set_cons_zero, List.set_cons_succ, lenTs, Int.reduceToNat, Int.reducePow, Int.reduceSub, Int.reduceAdd, Int.reduceMul, Int.reduceNeg, Int.reduceLT, Int.reduceLE, Int.reduceEq, Nat.reduceLT, Nat.reduceLeDiff, Nat.reduceAdd, Nat.reduceSub, Nat.reducePow, bPowL, SZ, tyOf, evI, items_ref, items_tup, live_ref, live_tup, lstOf_new, true_and, and_true, ne_eq, not_true_eq_false, not_false_eq_true, Int.cast_ofNat_Int, decide_eq_true_eq, if_true, if_false, ite_true, ite_false, List.nil_append, isB, String.reduceBEq, String.reduceEq, decide_true, decide_false, Bool.false_eq_true, Bool.or_false, Bool.and_false, Bool.or_true, Bool.and_true, Bool.true_and, Bool.false_and, Bool.not_true, Bool.not_false, ite_true, ite_false, reduceIte, Bool.true_or, Bool.false_or, gt_iff_lt, ge_iff_le, iM1, iM1', iM2, cut_last, cut_last2, slT, fTupL, fTupT, fListL, fInt, fIntB, wipe0, wipe1, tNs, tsNs, inT, isBl, notBl, List.all_cons, List.all_nil, List.any_cons, List.any_nil, flP, eqP, isBlB, notRef, lit_beq, List.append_nil, List.not_mem_nil, isNonB, Int.neg_neg, Int.reduceNegSucc]
      have en : nqF a (.int m) = if m ≠ a then some (.int m) else none := rfl
      rw [en] at hKK
      by_cases hma : m = a
      · rw [if_neg (by simpa using hma)] at hKK
        simp [hma]; exact hKK
      · rw [if_pos hma] at hKK
        simp [hma]; exact hKK
    have done : ∀ (c : Nat), c = (memS M (x, a)).2 → ∀ a5' , putV (PV.ref h.length) (PV.int x) (PV.ref (h3 ++ [PO.lst [PV.int a]] ++ [PO.lst ([] ++ ((M.1 x).map PV.int).filterMap (nqF a))] ++ [PO.lst ([PV.int a] ++ ([] ++ ((M.1 x).map PV.int).filterMap (nqF a)))]).length)
        (h3 ++ [PO.lst [PV.int a]] ++ [PO.lst ([] ++ ((M.1 x).map PV.int).filterMap (nqF a))] ++ [PO.lst ([PV.int a] ++ ([] ++ ((M.1 x).map PV.int).filterMap (nqF a)))] ++ [PO.lst (([PV.int a] ++ ([] ++ ((M.1 x).map PV.int).filterMap (nqF a))).take 2)]) fun h' => K [some (.ref sr), some (.ref h.length), some (.int c), some (.int x), some (.int a), a5', a6] h' := by
      intro c hc a5'
      have hd4 := get_app (t := [PO.lst (([PV.int a] ++ ([] ++ ((M.1 x).map PV.int).filterMap (nqF a))).take 2)]) (get_app (t := [PO.lst ([PV.int a] ++ ([] ++ ((M.1 x).map PV.int).filterMap (nqF a)))]) (get_app (t := [PO.lst ([] ++ ((M.1 x).map PV.int).filterMap (nqF a))]) (get_app (t := [PO.lst [PV.int a]]) hd3)))
      have hk4 : Kept h2 (h3 ++ [PO.lst [PV.int a]] ++ [PO.lst ([] ++ ((M.1 x).map PV.int).filterMap (nqF a))] ++ [PO.lst ([PV.int a] ++ ([] ++ ((M.1 x).map PV.int).filterMap (nqF a)))] ++ [PO.lst (([PV.int a] ++ ([] ++ ((M.1 x).map PV.int).filterMap (nqF a))).take 2)]) := hk3.trans (Kept.app.trans (Kept.app.trans (Kept.app.trans Kept.app)))
      rw [put_dic hd4 rfl (by show _ < 16777216; omega)]
      refine hK _ _ ⟨some (.int x), some (.int a), a5', a6, _, ?_, (hk.trans hk4).set (Nat.le_refl _), List.getElem?_set_self (List.getElem?_eq_some_iff.mp hd4).1, Nat.le_trans putD_len (by omega), fun y => ?_⟩
      · rw [Nat.zero_add, hmt, hc]
      · rw [Nat.zero_add, hmt, e1, look_put]
        by_cases hy : y = x
        · rw [if_pos hy, if_pos hy]
          refine .inr ⟨_, rfl, ?_, by simp; omega⟩
          rw [get_set_ne get_new (by simp; omega), List.nil_append, nq_map, List.map_take]; rfl
        · rw [if_neg hy, if_neg hy]
          rcases hrow y with ⟨f1, f2⟩ | ⟨z, f1, f2, f3⟩
          · exact .inl ⟨f1, f2⟩
          · exact .inr ⟨z, f1, get_set_ne (hk4 _ _ f2) f3, f3⟩
    by_cases ha : a ∈ M.1 x
    · rw [if_pos ha] at e2
      rw [decide_eq_true ha]
      dsimp only
      rw [if_pos rfl]
      refine ⟨_, lst_got (get_app er2), ?_⟩
      refine comp_fun (nqF a) (fun _ => lstOf_app (lst_got (get_app er2))) _ [] (fun z hz acc KK hKK => body z hz acc KK hKK) (by show _ ≤ 16777216; simp; omega) ?_
      rw [bAddL]
      refine ⟨_, _, get_app get_new, get_new, by have := List.length_filterMap_le (nqF a) ((M.1 x).map PV.int); simp at this; show _ ≤ 16777216; simp; omega, ?_⟩
      rw [slL]
      refine ⟨_, lstOf_new, ?_⟩
      rw [cut2]
      exact done (M.2 + 1) e2.symm _
    · rw [if_neg ha] at e2
      rw [decide_eq_false ha]
      dsimp only
      rw [if_neg Bool.false_ne_true]
      refine ⟨_, lst_got (get_app er2), ?_⟩
      refine comp_fun (nqF a) (fun _ => lstOf_app (lst_got (get_app er2))) _ [] (fun z hz acc KK hKK => body z hz acc KK hKK) (by show _ ≤ 16777216; simp; omega) ?_
      rw [bAddL]
      refine ⟨_, _, get_app get_new, get_new, by have := List.length_filterMap_le (nqF a) ((M.1 x).map PV.int); simp at this; show _ ≤ 16777216; simp; omega, ?_⟩
      rw [slL]
      refine ⟨_, lstOf_new, ?_⟩
      rw [cut2]
      exact done M.2 e2.symm _
  · obtain ⟨a3, a4, a5, a6, kvs, rfl, hk, hd, hn, hrow⟩ := iv
    simp only [evB, evS, evE, evEs, evO, evC, evT, evG, evGs, bAdd, bAddT, bSub, bMulL, bMulR, bDivL, bModL, cLt, cLe, cGt, cGe, cIs, cNot, iT0, iT1, fMin, fMax, fAbs, fLenT, tyT, tyI, tyB, tyS, truB, truI, ex_int, ex_bl, ex_tup, ex_some, ex_cons, eq_self, ex_var, eq_int, ne_int, eq_lit, ne_lit, startL, List.map_cons, List.map_nil, List.cons_append, List.nil_append, List.length_cons, List.length_nil, List.replicate, List.getElem?_cons_zero, List.getElem?_cons_succ, List.set_cons_zero, List.set_cons_succ, lenTs, Int.reduceToNat, Int.reducePow, Int.reduceSub, Int.reduceAdd, Int.reduceMul, Int.reduceNeg, Int.reduceLT, Int.reduceLE, Int.reduceEq, Nat.reduceLT, Nat.reduceLeDiff, Nat.reduceAdd, Nat.reduceSub, Nat.reducePow, bPowL, SZ, tyOf, evI, items_ref, items_tup, live_ref, live_tup, lstOf_new, true_and, and_true, ne_eq, not_true_eq_false, not_false_eq_true, Int.cast_ofNat_Int, decide_eq_true_eq, if_true, if_false, ite_true, ite_false, List.nil_append, isB, String.reduceBEq, String.reduceEq, decide_true, decide_false, Bool.false_eq_true, Bool.or_false, Bool.and_false, Bool.or_true, Bool.and_true, Bool.true_and, Bool.false_and, Bool.not_true, Bool.not_false, ite_true, ite_false, reduceIte, Bool.true_or, Bool.false_or, gt_iff_lt, ge_iff_le, iM1, iM1', iM2, cut_last, cut_last2, slT, fTupL, fTupT, fListL, fInt, fIntB, wipe0, wipe1, tNs, tsNs, inT, isBl, notBl, List.all_cons, List.all_nil, List.any_cons, List.any_nil, flP, eqP, isBlB, notRef, lit_beq, List.append_nil, List.not_mem_nil, isNonB, Int.neg_neg, Int.reduceNegSucc]
    rw [fLenL]
    refine ⟨_, lst_got (hk _ _ es), ?_⟩
    rw [Nat.zero_add, List.length_map, List.take_length]
    simp only [evB, evS, evE, evEs, evO, evC, evT, evG, evGs, bAdd, bAddT, bSub, bMulL, bMulR, bDivL, bModL, cLt, cLe, cGt, cGe, cIs, cNot, iT0, iT1, fMin, fMax, fAbs, fLenT, tyT, tyI, tyB, tyS, truB, truI, ex_int, ex_bl, ex_tup, ex_some, ex_cons, eq_self, ex_var, eq_int, ne_int, eq_lit, ne_lit, startL, List.map_cons, List.map_nil, List.cons_append, List.nil_append, List.length_cons, List.length_nil, List.replicate, List.getElem?_cons_zero, List.getElem?_cons_succ, List.set_cons_zero, List.set_cons_succ, lenTs, Int.reduceToNat, Int.reducePow, Int.reduceSub, Int.reduceAdd, Int.reduceMul, Int.reduceNeg, Int.reduceLT, Int.reduceLE, Int.reduceEq, Nat.reduceLT, Nat.reduceLeDiff, Nat.reduceAdd, Nat.reduceSub, Nat.reducePow, bPowL, SZ, tyOf, evI, items_ref, items_tup, live_ref, live_tup, lstOf_new, true_and, and_true, ne_eq, not_true_eq_false, not_false_eq_true, Int.cast_ofNat_Int, decide_eq_true_eq, if_true, if_false, ite_true, ite_false, List.nil_append, isB, String.reduceBEq, String.reduceEq, decide_true, decide_false, Bool.false_eq_true, Bool.or_false, Bool.and_false, Bool.or_true, Bool.and_true, Bool.true_and, Bool.false_and, Bool.not_true, Bool.not_false, ite_true, ite_false, reduceIte, Bool.true_or, Bool.false_or, gt_iff_lt, ge_iff_le, iM1, iM1', iM2, cut_last, cut_last2, slT, fTupL, fTupT, fListL, fInt, fIntB, wipe0, wipe1, tNs, tsNs, inT, isBl, notBl, List.all_cons, List.all_nil, List.any_cons, List.any_nil, flP, eqP, isBlB, notRef, lit_beq, List.append_nil, List.not_mem_nil, isNonB, Int.neg_neg, Int.reduceNegSucc]
    exact q _ _ (hk.trans Kept.app) get_new
end
end Py

set_option Elab.async false
set_option linter.all false
set_option maxRecDepth 100000
set_option maxHeartbeats 4000000
/-! Law 63, over the reading: the law's own text in parts (cut by split.py), its end. -/
namespace Py
open PySem
def lawMost : Nat := 63
def lawK : Nat := 6
def endK : En := ⟨fun _ h' => PV.non = .bl true, fun v _ => v = .bl true, fun _ _ => False, fun _ _ _ => False⟩
def b_law_9 : B :=
  (.cons (.ife (.or (.cmp .notN (.meth (.var 4) n_step .nil) (.bl false)) (.nt (.v (.call n__law_alike (.cons (.var 3) (.cons (.var 4) (.cons (.int 0) .nil))))))) (.cons (.ret (.bl false))
  .nil) .nil)
  (.cons (.asg (.tup (.cons (.nm 7) (.cons (.nm 8) (.cons (.nm 9) .nil)))) (.call n__law_answer (.cons (.var 1) (.cons (.var 2) .nil))))
  (.cons (.ret (.cmp .eq (.bf .repr1 (.cons (.lst (.cons (.meth (.var 3) n_answer .nil) (.cons (.meth (.var 3) n_calls .nil) (.cons (.lst (.cons (.meth (.var 3) n_looks .nil) (.cons (.meth (.var 3) n_hits .nil) .nil))) .nil)))) .nil)) (.bf .repr1 (.cons (.lst (.cons (.var 7) (.cons (.var 8) (.cons (.call n__law_remembered (.cons (.var 9) .nil)) .nil)))) .nil)))) .nil)))
def b_law_8 : B :=
  (.cons (.whl (.v (.meth (.var 3) n_step .nil)) (.cons (.asg (.nm 6) (.bin .add (.var 6) (.int 1)))
  (.cons (.ife (.or (.cmp .notN (.meth (.var 4) n_step .nil) (.bl true)) (.cmp .gt (.var 6) (.int 1500))) (.cons (.ret (.bl false))
  .nil) .nil)
  (.cons (.ife (.and (.nt (.v (.var 5))) (.nt (.v (.call n__law_alike (.cons (.var 3) (.cons (.var 4) (.cons (.call n__law_mixed (.cons (.call n__law_cell_at (.cons (.var 0) (.cons (.int 7) .nil))) (.cons (.var 6) .nil))) .nil))))))) (.cons (.ret (.bl false))
  .nil) .nil)
  .nil)))) b_law_9)
def b_law_6 : B :=
  (.cons (.asg (.nm 5) (.cmp .gt (.idx (.var 1) (.int 5)) (.int 12)))
  (.cons (.asg (.nm 6) (.int 0)) b_law_8))
def b_law_5 : B :=
  (.cons (.asg (.nm 4) (.mk n_Machine (.cons (.bf .list1 (.cons (.idx (.var 1) (.int 0)) .nil)) (.cons (.lc (.bf .list1 (.cons (.var 10) .nil)) (.nm 10) (.seq (.idx (.var 1) (.int 1))) .no) (.cons (.lst .nil) (.cons (.var 2) (.cons (.bl false) .nil))))))) b_law_6)
def b_law_4 : B :=
  (.cons (.asg (.nm 3) (.mk n_Machine (.cons (.bf .list1 (.cons (.idx (.var 1) (.int 0)) .nil)) (.cons (.lc (.bf .list1 (.cons (.var 10) .nil)) (.nm 10) (.seq (.idx (.var 1) (.int 1))) .no) (.cons (.lst .nil) (.cons (.var 2) (.cons (.bl true) .nil))))))) b_law_5)
def b_law_3 : B :=
  (.cons (.ife (.cmp .eq (.bin .mod (.call n__law_cell_at (.cons (.var 0) (.cons (.int 6) .nil))) (.int 2)) (.int 1)) (.cons (.asg (.nm 2) (.bf .max2 (.cons (.int 0) (.cons (.bin .add (.bin .mul (.int 2) (.idx (.var 1) (.int 5))) (.bin .mod (.bin .fdiv (.call n__law_cell_at (.cons (.var 0) (.cons (.int 6) .nil))) (.int 2)) (.int 3))) .nil))))
  .nil) .nil) b_law_4)
theorem b_law_cut : b_law =
  (.cons (.asg (.nm 1) (.call n__law_program (.cons (.var 0) .nil)))
  (.cons (.asg (.nm 2) (.bin .mod (.bin .fdiv (.call n__law_cell_at (.cons (.var 0) (.cons (.int 6) .nil))) (.int 2)) (.int 101))) b_law_3)) := rfl
def toldD (e : PV) (c x y : Int) : PyData := .list [dat e, .int c, .list [.int x, .int y]]
theorem s_repr3 {h : PH} {Q : KQ} {a b : Nat} {e : PV} {c x y : Int} (ea : lstOf h (.ref a) = some [e, .int c, .ref b]) (eb : lstOf h (.ref b) = some [.int x, .int y]) (o : EndOk e) (hc : c.natAbs < 10 ^ 20) (hx : x.natAbs < 10 ^ 20) (hy : y.natAbs < 10 ^ 20)
    (q : Q (.str (toldD e c x y).shown) h) : bfV .repr1 [.ref a] h Q := by
  have re := (rp_end o).1
  have rc := Rp.int hc
  have rx := Rp.int hx
  have ry := Rp.int hy
  refine ⟨toldD e c x y, rfl, ⟨_, ea, _, _, rfl, Dat_dat _ re.fl, _, _, rfl, rfl, _, _, rfl, ⟨_, eb, _, _, rfl, rfl, _, _, rfl, rfl, rfl⟩, rfl⟩, ?_, ?_, ?_, q⟩
  · have h1 := re.lay
    have h2 := re.dep
    unfold SeqAt.shaped
    show (((PyData.canLay0 (dat e) && (true && ((true && (true && true)) && true))) && _) = true)
    rw [h1]
    refine Bool.and_eq_true_iff.mpr ⟨rfl, decide_eq_true ?_⟩
    show max (PyData.depth (dat e)) (max 0 (max (max 0 (max 0 0) + 1) 0)) + 1 ≤ 64
    omega
  · show (PyData.showable (dat e) && (PyData.showable (.int c) && ((PyData.showable (.int x) && (PyData.showable (.int y) && true)) && true))) = true
    rw [re.sho, show PyData.showable (.int c) = true from rc.sho, show PyData.showable (.int x) = true from rx.sho, show PyData.showable (.int y) = true from ry.sho]; rfl
  · have t := listText_len_le (PyData.shownAll [dat e, .int c, .list [.int x, .int y]])
    have t2 := listText_len_le (PyData.shownAll [.int x, .int y])
    show (listText (PyData.shownAll [dat e, .int c, .list [.int x, .int y]])).length ≤ 16777216
    refine Nat.le_trans t ?_
    have l1 := re.len
    have l3 : (PyData.int c).shown.length ≤ 21 := rc.len
    have l4 : (PyData.int x).shown.length ≤ 21 := rx.len
    have l5 : (PyData.int y).shown.length ≤ 21 := ry.len
    have l6 : (PyData.list [.int x, .int y]).shown.length ≤ ((PyData.int x).shown.length + ((PyData.int y).shown.length + 0)) + 2 * 2 + 3 := t2
    show ((dat e).shown.length + ((PyData.int c).shown.length + ((PyData.list [.int x, .int y]).shown.length + 0))) + 2 * 3 + 3 ≤ 16777216
    omega
theorem mem_le (ss : List (Int × Int)) : (mem ss).2 ≤ ss.length := by
  have : ∀ (ss : List (Int × Int)) (p : (Int → List Int) × Nat), (ss.foldl memS p).2 ≤ p.2 + ss.length := by
    intro ss
    induction ss with
    | nil => intro p; exact Nat.le_refl _
    | cons e r ih =>
      intro p
      have h1 := ih (memS p e)
      have h2 : (memS p e).2 ≤ p.2 + 1 := by
        show (if e.2 ∈ p.1 e.1 then p.2 + 1 else p.2) ≤ _
        split <;> omega
      rw [List.foldl_cons, List.length_cons]
      omega
  have := this ss (fun _ => [], 0)
  unfold mem
  omega
/-- the program as it stands in the heap -/
structure Prg (P : Pg) (h : PH) (kr hr vr : Nat) : Prop where
  ok : P.Ok
  ek : h[kr]? = some (.lst ((List.range P.many).map fun z => .int (P.kd (P.wh z))))
  eh : h[hr]? = some (.lst ((List.range 4).map fun j => .int (P.hm j)))
  ev : h[vr]? = some (.lst ((List.range 4).map fun j => .int (P.vl j)))
theorem Prg.kept {P : Pg} {h h' : PH} {kr hr vr : Nat} (p : Prg P h kr hr vr) (k : Kept h h') : Prg P h' kr hr vr := ⟨p.ok, k _ _ p.ek, k _ _ p.eh, k _ _ p.ev⟩
section
variable {P : Pg} {most : Int} {C1 C2 : Cf} {Fp1 Fp2 : Nat → Prop} {n1 n2 k : Nat} {h : PH} {p1 ac1 ah1 sp1 ap1 am1 d1 : Nat} {th1 : List Nat} {p2 ac2 ah2 sp2 ap2 am2 d2 : Nat} {th2 : List Nat} {s t : St} {kr hr vr : Nat} {v0 v1 x0 : PV} {long : Bool} {turn : Int}
theorem law_9 (Pr : Prg P h kr hr vr) (S : Shw s) (M1 : MC C1 Fp1 n1 h p1 ac1 ah1 sp1 ap1 am1 d1 th1 s) (M2 : MC C2 Fp2 n2 h p2 ac2 ah2 sp2 ap2 am2 d2 th2 t) (L : Like s t) (hp : s.pile = []) (he : s.ended = (P.answer most).1) (hc : s.counted = ((P.answer most).2.1 : Nat)) (hs : s.sought = ((P.answer most).2.2.length : Int) - (mem (P.answer most).2.2).2) (hm : s.met = ((mem (P.answer most).2.2).2 : Nat)) :
    evB sgT (callS sgT lawK) b_law_9 [some x0, some (.tup [v0, v1, .ref kr, .ref hr, .ref vr, .int P.count, .int P.last]), some (.int most), some (.ref p1), some (.ref p2), some (.bl long), some (.int turn), none, none, none, none] h endK := by
  simp only [evB, evS, evE, evEs, evO, evC, evT, evG, evGs, bAdd, bAddT, bSub, bMulL, bMulR, bDivL, bModL, cLt, cLe, cGt, cGe, cIs, cNot, iT0, iT1, fMin, fMax, fAbs, fLenT, tyT, tyI, tyB, tyS, truB, truI, ex_int, ex_bl, ex_tup, ex_some, ex_cons, eq_self, ex_var, eq_int, ne_int, eq_lit, ne_lit, startL, List.map_cons, List.map_nil, List.cons_append, List.nil_append, List.length_cons, List.length_nil, List.replicate, List.getElem?_cons_zero, List.getElem?_cons_succ, List.set_cons_zero, List.set_cons_succ, lenTs, Int.reduceToNat, Int.reducePow, Int.reduceSub, Int.reduceAdd, Int.reduceMul, Int.reduceNeg, Int.reduceLT, Int.reduceLE, Int.reduceEq, Nat.reduceLT, Nat.reduceLeDiff, Nat.reduceAdd, Nat.reduceSub, Nat.reducePow, bPowL, SZ, tyOf, evI, items_ref, items_tup, live_ref, live_tup, lstOf_new, true_and, and_true, ne_eq, not_true_eq_false, not_false_eq_true, Int.cast_ofNat_Int, decide_eq_true_eq, if_true, if_false, ite_true, ite_false, List.nil_append, isB, String.reduceBEq, String.reduceEq, decide_true, decide_false, Bool.false_eq_true, Bool.or_false, Bool.and_false, Bool.or_true, Bool.and_true, Bool.true_and, Bool.false_and, Bool.not_true, Bool.not_false, ite_true, ite_false, reduceIte, Bool.true_or, Bool.false_or, gt_iff_lt, ge_iff_le, iM1, iM1', iM2, cut_last, cut_last2, slT, fTupL, fTupT, fListL, fInt, fIntB, wipe0, wipe1, tNs, tsNs, inT, isBl, notBl, List.all_cons, List.all_nil, List.any_cons, List.any_nil, flP, eqP, isBlB, notRef, lit_beq, List.append_nil, List.not_mem_nil, isNonB, Int.neg_neg, Int.reduceNegSucc, b_law_9, lawK]
  rw [ex_meth M2.ins c_Machine (show getM n_step cMachine.meths = some n_Machine_step from rfl)]
  refine s_step_over M2 (by rw [L.pile]; exact hp) ?_
  refine ⟨rfl, ?_⟩
  show (if (!isBlB false (PV.bl false)) = true then _ else _)
  rw [if_neg (show ¬ (!isBlB false (PV.bl false)) = true by decide)]
  refine s_alike S M1.app M2.app L fun H hH => ?_
  refine ⟨true, rfl, ?_⟩
  rw [if_neg (by decide)]
  have E1 : Ext h H := Ext.refl.app.trans hH
  have M5 := M1.frame (h' := H) fun a o _ e => E1.kept a o e
  have P5 := Pr.kept E1.kept
  obtain ⟨z1, z2, z3⟩ := answer_small (most := most) Pr.ok
  refine s_answer P5.ok P5.ek P5.eh P5.ev fun h3 sr hk3 es => ?_
  simp only [evB, evS, evE, evEs, evO, evC, evT, evG, evGs, bAdd, bAddT, bSub, bMulL, bMulR, bDivL, bModL, cLt, cLe, cGt, cGe, cIs, cNot, iT0, iT1, fMin, fMax, fAbs, fLenT, tyT, tyI, tyB, tyS, truB, truI, ex_int, ex_bl, ex_tup, ex_some, ex_cons, eq_self, ex_var, eq_int, ne_int, eq_lit, ne_lit, startL, List.map_cons, List.map_nil, List.cons_append, List.nil_append, List.length_cons, List.length_nil, List.replicate, List.getElem?_cons_zero, List.getElem?_cons_succ, List.set_cons_zero, List.set_cons_succ, lenTs, Int.reduceToNat, Int.reducePow, Int.reduceSub, Int.reduceAdd, Int.reduceMul, Int.reduceNeg, Int.reduceLT, Int.reduceLE, Int.reduceEq, Nat.reduceLT, Nat.reduceLeDiff, Nat.reduceAdd, Nat.reduceSub, Nat.reducePow, bPowL, SZ, tyOf, evI, items_ref, items_tup, live_ref, live_tup, lstOf_new, true_and, and_true, ne_eq, not_true_eq_false, not_false_eq_true, Int.cast_ofNat_Int, decide_eq_true_eq, if_true, if_false, ite_true, ite_false, List.nil_append, isB, String.reduceBEq, String.reduceEq, decide_true, decide_false, Bool.false_eq_true, Bool.or_false, Bool.and_false, Bool.or_true, Bool.and_true, Bool.true_and, Bool.false_and, Bool.not_true, Bool.not_false, ite_true, ite_false, reduceIte, Bool.true_or, Bool.false_or, gt_iff_lt, ge_iff_le, iM1, iM1', iM2, cut_last, cut_last2, slT, fTupL, fTupT, fListL, fInt, fIntB, wipe0, wipe1, tNs, tsNs, inT, isBl, notBl, List.all_cons, List.all_nil, List.any_cons, List.any_nil, flP, eqP, isBlB, notRef, lit_beq, List.append_nil, List.not_mem_nil, isNonB, Int.neg_neg, Int.reduceNegSucc]
  have M6 := M5.frame (h' := h3) fun a o _ e => hk3 a o e
  rw [ex_meth M6.ins c_Machine (show getM n_answer cMachine.meths = some n_Machine_answer from rfl), e_answer M6]
  rw [ex_meth M6.ins c_Machine (show getM n_calls cMachine.meths = some n_Machine_calls from rfl), e_calls M6]
  rw [ex_meth M6.ins c_Machine (show getM n_looks cMachine.meths = some n_Machine_looks from rfl), e_looks M6]
  rw [ex_meth M6.ins c_Machine (show getM n_hits cMachine.meths = some n_Machine_hits from rfl), e_hits M6]
  rw [he, hc, hs, hm]
  have hmem : (mem (P.answer most).2.2).2 ≤ 100 := Nat.le_trans (mem_le _) z2
  refine s_repr3 lstOf_new (lst_got (get_app get_new)) z3 (by omega) (by omega) (by omega) ?_
  refine s_remembered (get_app (get_app es)) (by omega) fun h4 r hk4 er => ?_
  refine s_repr3 lstOf_new (lst_got (get_app er)) z3 (by omega) (by omega) (by omega) ?_
  show PV.bl (decide (_ = _)) = .bl true
  rw [decide_eq_true rfl]
end
/-! ### both go on -/
structure Bds (s : St) (n : Nat) : Prop where
  cnt : s.counted.natAbs ≤ n
  gone : s.gone.natAbs ≤ n
  sought : s.sought.natAbs ≤ n
  met : s.met.natAbs ≤ n
theorem bds_enter {C : Cf} {s s' : St} {fs : List Fr} {b a : Int} {sl rest vals : List PV} {bb : Int} {n : Nat} (E : EnterR C s fs b a sl rest vals bb s') (h1 : s.counted.natAbs ≤ n) : s'.counted.natAbs ≤ n + 1 ∧ s'.gone = s.gone ∧ s'.sought = s.sought ∧ s'.met = s.met := by
  cases E with
  | dry h => exact ⟨by show s.counted.natAbs ≤ _; omega, rfl, rfl, rfl⟩
  | deep h h2 => exact ⟨by show (s.counted + 1).natAbs ≤ _; omega, rfl, rfl, rfl⟩
  | go h h2 h3 h4 h5 h6 => exact ⟨by show (s.counted + 1).natAbs ≤ _; omega, rfl, rfl, rfl⟩
theorem bds_step {C : Cf} {s s' : St} {fs : List Fr} {f : Fr} {n : Nat} (T : Stp C s fs f s') (b : Bds s n) : Bds s' (n + 1) := by
  obtain ⟨b1, b2, b3, b4⟩ := b
  cases T with
  | own hr hw ho => exact ⟨by show s.counted.natAbs ≤ _; omega, by show (s.gone + 1).natAbs ≤ _; omega, by show s.sought.natAbs ≤ _; omega, by show s.met.natAbs ≤ _; omega⟩
  | ref hr hw ho => exact ⟨by show s.counted.natAbs ≤ _; omega, by show (s.gone + 1).natAbs ≤ _; omega, by show s.sought.natAbs ≤ _; omega, by show s.met.natAbs ≤ _; omega⟩
  | make hr hst hm hz => exact ⟨by show s.counted.natAbs ≤ _; omega, by show (s.gone + 1).natAbs ≤ _; omega, by show s.sought.natAbs ≤ _; omega, by show s.met.natAbs ≤ _; omega⟩
  | put hr hst hi hm hj hv hz => exact ⟨by show s.counted.natAbs ≤ _; omega, by show (s.gone + 1).natAbs ≤ _; omega, by show s.sought.natAbs ≤ _; omega, by show s.met.natAbs ≤ _; omega⟩
  | back hr hst hB => cases hB <;> exact ⟨by show s.counted.natAbs ≤ _; omega, by show (s.gone + 1).natAbs ≤ _; omega, by show s.sought.natAbs ≤ _; omega, by show s.met.natAbs ≤ _; omega⟩
  | str hr hst hz E =>
    obtain ⟨e1, e2, e3, e4⟩ := bds_enter (n := n) E (by show s.counted.natAbs ≤ _; omega)
    exact ⟨e1, by rw [e2]; show (s.gone + 1).natAbs ≤ _; omega, by rw [e3]; show s.sought.natAbs ≤ _; omega, by rw [e4]; show s.met.natAbs ≤ _; omega⟩
  | call hr hst hz hi hok LK E =>
    cases LK with
    | plain h _ =>
      obtain ⟨e1, e2, e3, e4⟩ := bds_enter (n := n) E (by show s.counted.natAbs ≤ _; omega)
      exact ⟨e1, by rw [e2]; show (s.gone + 1).natAbs ≤ _; omega, by rw [e3]; show (s.sought + 1).natAbs ≤ _; omega, by rw [e4]; show s.met.natAbs ≤ _; omega⟩
    | hit h e =>
      obtain ⟨e1, e2, e3, e4⟩ := bds_enter (n := n) E (by show s.counted.natAbs ≤ _; omega)
      exact ⟨e1, by rw [e2]; show (s.gone + 1).natAbs ≤ _; omega, by rw [e3]; show s.sought.natAbs ≤ _; omega, by rw [e4]; show (s.met + 1).natAbs ≤ _; omega⟩
    | miss h e tb =>
      obtain ⟨e1, e2, e3, e4⟩ := bds_enter (n := n) E (by show s.counted.natAbs ≤ _; omega)
      exact ⟨e1, by rw [e2]; show (s.gone + 1).natAbs ≤ _; omega, by rw [e3]; show (s.sought + 1).natAbs ≤ _; omega, by rw [e4]; show s.met.natAbs ≤ _; omega⟩
theorem shw_of {C : Cf} {m n : Nat} {s se : St} (R : Runs C m s se) (b : Bds s n) (hn : n ≤ 1600) (he : se.pile = [] ∧ okMd se.made ∧ EndOk se.ended) : Shw s := by
  cases R with
  | nil e =>
    subst e
    exact ⟨by rw [he.1]; simp, by rw [he.1]; simp, he.2.1, .inr he.2.2, by have := b.cnt; omega, by have := b.gone; omega, by have := b.sought; omega, by have := b.met; omega⟩
  | cons h1 h2 h3 h4 h5 h6 h7 => exact ⟨h3, h4, h5, .inl h2, by have := b.cnt; omega, by have := b.gone; omega, by have := b.sought; omega, by have := b.met; omega⟩
theorem whl_ind {f : Loc → PH → (Loc → PH → Prop) → Prop} (Inv : Nat → Loc → PH → Prop) (h0 : ∀ l h K, Inv 0 l h → f l h K) (hS : ∀ m l h K, Inv (m + 1) l h → (∀ l' h', Inv m l' h' → K l' h') → f l h K) : ∀ m l h, Inv m l h → whlN f (m + 1) l h
  | 0, l, h, i => h0 l h _ i
  | m + 1, l, h, i => hS m l h _ i fun l' h' i' => whl_ind Inv h0 hS m l' h' i'
section
variable {P : Pg} {most : Int} {k : Nat} {h h00 : PH} {p1 ac1 ah1 sp1 ap1 am1 d1 : Nat} {th1 : List Nat} {p2 ac2 ah2 sp2 ap2 am2 d2 : Nat} {th2 : List Nat} {s t : St} {kr hr vr : Nat} {v0 v1 x0 : PV} {long : Bool} {Fp1 Fp2 : Nat → Prop} {ns : List Int}
theorem law_8 {m : Nat} {se : St} (hs0 : lstOf h00 (.ref 0) = some (ns.map PV.int)) (Pr : Prg P h00 kr hr vr) (hk00 : Kept h00 h) (M1 : MC (P.cf most true) Fp1 0 h p1 ac1 ah1 sp1 ap1 am1 d1 th1 s) (M2 : MC (P.cf most false) Fp2 0 h p2 ac2 ah2 sp2 ap2 am2 d2 th2 t)
    (lt1 : ∀ a, Fp1 a → a < h.length) (lt2 : ∀ a, Fp2 a → a < h.length) (dis : ∀ a, Fp1 a → ¬ Fp2 a) (o1 : ∀ a, Fp1 a → h00.length ≤ a) (o2 : ∀ a, Fp2 a → h00.length ≤ a) (L : Like s t) (c : Con (P.cf most true) s) (R : Runs (P.cf most true) m s se) (hm : m ≤ 1500) (B : Bds s 0)
    (he : se.pile = [] ∧ okMd se.made ∧ EndOk se.ended) (e1 : se.ended = (P.answer most).1) (e2 : se.counted = ((P.answer most).2.1 : Nat)) (e3 : se.sought = ((P.answer most).2.2.length : Int) - (mem (P.answer most).2.2).2) (e4 : se.met = ((mem (P.answer most).2.2).2 : Nat)) :
    evB sgT (callS sgT lawK) b_law_8 [some (.ref 0), some (.tup [v0, v1, .ref kr, .ref hr, .ref vr, .int P.count, .int P.last]), some (.int most), some (.ref p1), some (.ref p2), some (.bl long), some (.int 0), none, none, none, none] h endK := by
  simp only [evB, evS, evE, evEs, evO, evC, evT, evG, evGs, bAdd, bAddT, bSub, bMulL, bMulR, bDivL, bModL, cLt, cLe, cGt, cGe, cIs, cNot, iT0, iT1, fMin, fMax, fAbs, fLenT, tyT, tyI, tyB, tyS, truB, truI, ex_int, ex_bl, ex_tup, ex_some, ex_cons, eq_self, ex_var, eq_int, ne_int, eq_lit, ne_lit, startL, List.map_cons, List.map_nil, List.cons_append, List.nil_append, List.length_cons, List.length_nil, List.replicate, List.getElem?_cons_zero, List.getElem?_cons_succ, List.set_cons_zero, List.set_cons_succ, lenTs, Int.reduceToNat, Int.reducePow, Int.reduceSub, Int.reduceAdd, Int.reduceMul, Int.reduceNeg, Int.reduceLT, Int.reduceLE, Int.reduceEq, Nat.reduceLT, Nat.reduceLeDiff, Nat.reduceAdd, Nat.reduceSub, Nat.reducePow, bPowL, SZ, tyOf, evI, items_ref, items_tup, live_ref, live_tup, lstOf_new, true_and, and_true, ne_eq, not_true_eq_false, not_false_eq_true, Int.cast_ofNat_Int, decide_eq_true_eq, if_true, if_false, ite_true, ite_false, List.nil_append, isB, String.reduceBEq, String.reduceEq, decide_true, decide_false, Bool.false_eq_true, Bool.or_false, Bool.and_false, Bool.or_true, Bool.and_true, Bool.true_and, Bool.false_and, Bool.not_true, Bool.not_false, ite_true, ite_false, reduceIte, Bool.true_or, Bool.false_or, gt_iff_lt, ge_iff_le, iM1, iM1', iM2, cut_last, cut_last2, slT, fTupL, fTupT, fListL, fInt, fIntB, wipe0, wipe1, tNs, tsNs, inT, isBl, notBl, List.all_cons, List.all_nil, List.any_cons, List.any_nil, flP, eqP, isBlB, notRef, lit_beq, List.append_nil, List.not_mem_nil, isNonB, Int.neg_neg, Int.reduceNegSucc, b_law_8, lawK]
  refine ⟨m + 1, whl_ind (fun m l h => ∃ (turn : Nat) (s t : St) (Fp1 Fp2 : Nat → Prop) (n1 n2 ap1 ap2 : Nat), l = [some (.ref 0), some (.tup [v0, v1, .ref kr, .ref hr, .ref vr, .int P.count, .int P.last]), some (.int most), some (.ref p1), some (.ref p2), some (.bl long), some (.int turn), none, none, none, none] ∧
      Kept h00 h ∧ MC (P.cf most true) Fp1 n1 h p1 ac1 ah1 sp1 ap1 am1 d1 th1 s ∧ MC (P.cf most false) Fp2 n2 h p2 ac2 ah2 sp2 ap2 am2 d2 th2 t ∧ (∀ a, Fp1 a → a < h.length) ∧ (∀ a, Fp2 a → a < h.length) ∧ (∀ a, Fp1 a → ¬ Fp2 a) ∧ (∀ a, Fp1 a → h00.length ≤ a) ∧ (∀ a, Fp2 a → h00.length ≤ a) ∧
      Like s t ∧ Con (P.cf most true) s ∧ Runs (P.cf most true) m s se ∧ turn + m ≤ 1500 ∧ Bds s turn ∧ n1 ≤ 2 * turn ∧ n2 ≤ 2 * turn) (fun l h K iv => ?_) (fun m l h K iv hK => ?_) m _ _ ⟨0, s, t, Fp1, Fp2, 0, 0, ap1, ap2, rfl, hk00, M1, M2, lt1, lt2, dis, o1, o2, L, c, R, by omega, B, Nat.zero_le _, Nat.zero_le _⟩⟩
  · obtain ⟨turn, s, t, Fp1, Fp2, n1, n2, ap1, ap2, rfl, hk, M1, M2, lt1, lt2, dis, o1, o2, L, c, R, ht, B, hn1, hn2⟩ := iv
    have S := shw_of R B (by omega) he
    have es : s = se := by
      cases R with
      | nil e => exact e
    subst es
    simp only [evB, evS, evE, evEs, evO, evC, evT, evG, evGs, bAdd, bAddT, bSub, bMulL, bMulR, bDivL, bModL, cLt, cLe, cGt, cGe, cIs, cNot, iT0, iT1, fMin, fMax, fAbs, fLenT, tyT, tyI, tyB, tyS, truB, truI, ex_int, ex_bl, ex_tup, ex_some, ex_cons, eq_self, ex_var, eq_int, ne_int, eq_lit, ne_lit, startL, List.map_cons, List.map_nil, List.cons_append, List.nil_append, List.length_cons, List.length_nil, List.replicate, List.getElem?_cons_zero, List.getElem?_cons_succ, List.set_cons_zero, List.set_cons_succ, lenTs, Int.reduceToNat, Int.reducePow, Int.reduceSub, Int.reduceAdd, Int.reduceMul, Int.reduceNeg, Int.reduceLT, Int.reduceLE, Int.reduceEq, Nat.reduceLT, Nat.reduceLeDiff, Nat.reduceAdd, Nat.reduceSub, Nat.reducePow, bPowL, SZ, tyOf, evI, items_ref, items_tup, live_ref, live_tup, lstOf_new, true_and, and_true, ne_eq, not_true_eq_false, not_false_eq_true, Int.cast_ofNat_Int, decide_eq_true_eq, if_true, if_false, ite_true, ite_false, List.nil_append, isB, String.reduceBEq, String.reduceEq, decide_true, decide_false, Bool.false_eq_true, Bool.or_false, Bool.and_false, Bool.or_true, Bool.and_true, Bool.true_and, Bool.false_and, Bool.not_true, Bool.not_false, ite_true, ite_false, reduceIte, Bool.true_or, Bool.false_or, gt_iff_lt, ge_iff_le, iM1, iM1', iM2, cut_last, cut_last2, slT, fTupL, fTupT, fListL, fInt, fIntB, wipe0, wipe1, tNs, tsNs, inT, isBl, notBl, List.all_cons, List.all_nil, List.any_cons, List.any_nil, flP, eqP, isBlB, notRef, lit_beq, List.append_nil, List.not_mem_nil, isNonB, Int.neg_neg, Int.reduceNegSucc]
    rw [ex_meth M1.ins c_Machine (show getM n_step cMachine.meths = some n_Machine_step from rfl)]
    refine s_step_over M1 he.1 ?_
    refine ⟨false, rfl, ?_⟩
    rw [if_neg Bool.false_ne_true]
    exact law_9 ((Pr.kept hk).kept Kept.app) S M1.app M2.app L he.1 e1 e2 e3 e4
  · obtain ⟨turn, s, t, Fp1, Fp2, n1, n2, ap1, ap2, rfl, hk, M1, M2, lt1, lt2, dis, o1, o2, L, c, R, ht, B, hn1, hn2⟩ := iv
    cases R with
    | @cons m' _ s1 _ fs f hp hend hok hl hmd T R3 =>
    simp only [evB, evS, evE, evEs, evO, evC, evT, evG, evGs, bAdd, bAddT, bSub, bMulL, bMulR, bDivL, bModL, cLt, cLe, cGt, cGe, cIs, cNot, iT0, iT1, fMin, fMax, fAbs, fLenT, tyT, tyI, tyB, tyS, truB, truI, ex_int, ex_bl, ex_tup, ex_some, ex_cons, eq_self, ex_var, eq_int, ne_int, eq_lit, ne_lit, startL, List.map_cons, List.map_nil, List.cons_append, List.nil_append, List.length_cons, List.length_nil, List.replicate, List.getElem?_cons_zero, List.getElem?_cons_succ, List.set_cons_zero, List.set_cons_succ, lenTs, Int.reduceToNat, Int.reducePow, Int.reduceSub, Int.reduceAdd, Int.reduceMul, Int.reduceNeg, Int.reduceLT, Int.reduceLE, Int.reduceEq, Nat.reduceLT, Nat.reduceLeDiff, Nat.reduceAdd, Nat.reduceSub, Nat.reducePow, bPowL, SZ, tyOf, evI, items_ref, items_tup, live_ref, live_tup, lstOf_new, true_and, and_true, ne_eq, not_true_eq_false, not_false_eq_true, Int.cast_ofNat_Int, decide_eq_true_eq, if_true, if_false, ite_true, ite_false, List.nil_append, isB, String.reduceBEq, String.reduceEq, decide_true, decide_false, Bool.false_eq_true, Bool.or_false, Bool.and_false, Bool.or_true, Bool.and_true, Bool.true_and, Bool.false_and, Bool.not_true, Bool.not_false, ite_true, ite_false, reduceIte, Bool.true_or, Bool.false_or, gt_iff_lt, ge_iff_le, iM1, iM1', iM2, cut_last, cut_last2, slT, fTupL, fTupT, fListL, fInt, fIntB, wipe0, wipe1, tNs, tsNs, inT, isBl, notBl, List.all_cons, List.all_nil, List.any_cons, List.any_nil, flP, eqP, isBlB, notRef, lit_beq, List.append_nil, List.not_mem_nil, isNonB, Int.neg_neg, Int.reduceNegSucc]
    rw [ex_meth M1.ins c_Machine (show getM n_step cMachine.meths = some n_Machine_step from rfl)]
    refine s_step M1 lt1 hp (fun g hg => (hok g hg).f) (by omega) (by omega) T fun h2 ap1' mv1 M3 => ?_
    refine ⟨true, rfl, ?_⟩
    rw [if_pos rfl]
    obtain ⟨t1, T2, L1, c1⟩ := sim (C := P.cf most true) rfl good_cf T L c
    have M4 := M2.frame (h' := h2) fun a o fa e => mv1.at_ a o (fun g => dis a g fa) e
    have lt2' : ∀ a, Fp2 a → a < h2.length := fun a fa => by have := lt2 a fa; have := mv1.le; omega
    rw [ex_meth M4.ins c_Machine (show getM n_step cMachine.meths = some n_Machine_step from rfl)]
    refine s_step M4 lt2' (by rw [L.pile]; exact hp) (fun g hg => (hok g (by rw [L.pile] at hg; exact hg)).f) (by rw [L.pile]; omega) (by omega) T2 fun h3 ap2' mv2 M5 => ?_
    refine ⟨rfl, ?_⟩
    show (if (!isBlB true (PV.bl true)) = true then _ else _)
    rw [if_neg (show ¬ (!isBlB true (PV.bl true)) = true by decide), if_neg (by omega)]
    have dis1 : ∀ a, grow Fp1 h h2 a → ¬ Fp2 a := fun a g fa => by
      rcases g with g | g
      · exact dis a g fa
      · have := lt2 a fa; omega
    have M6 := M3.frame (h' := h3) fun a o fa e => mv2.at_ a o (fun g => dis1 a fa g) e
    have l3 := mv2.le
    have l2 := mv1.le
    have hk3 : Kept h00 h3 := fun a o e => by
      have la := (List.getElem?_eq_some_iff.mp e).1
      exact mv2.at_ a o (fun g => by have := o2 a g; omega) (mv1.at_ a o (fun g => by have := o1 a g; omega) (hk a o e))
    have B1 := bds_step T B
    have S1 := shw_of R3 B1 (by omega) he
    have lt3 : ∀ a, grow Fp1 h h2 a → a < h3.length := fun a g => by
      rcases g with g | g
      · have := lt1 a g; omega
      · omega
    have lt4 : ∀ a, grow Fp2 h2 h3 a → a < h3.length := fun a g => by
      rcases g with g | g
      · have := lt2' a g; omega
      · omega
    have dis2 : ∀ a, grow Fp1 h h2 a → ¬ grow Fp2 h2 h3 a := fun a g g2 => by
      rcases g2 with g2 | g2
      · exact dis1 a g g2
      · rcases g with g | g
        · have := lt1 a g; omega
        · omega
    have hl00 := hk.le
    have o3 : ∀ a, grow Fp1 h h2 a → h00.length ≤ a := fun a g => by
      rcases g with g | g
      · exact o1 a g
      · omega
    have o4 : ∀ a, grow Fp2 h2 h3 a → h00.length ≤ a := fun a g => by
      rcases g with g | g
      · exact o2 a g
      · omega
    have ec : (turn : Int) + 1 = ((turn + 1 : Nat) : Int) := by omega
    have fin : ∀ H, Ext h3 H → K [some (.ref 0), some (.tup [v0, v1, .ref kr, .ref hr, .ref vr, .int P.count, .int P.last]), some (.int most), some (.ref p1), some (.ref p2), some (.bl long), some (.int ((turn : Int) + 1)), none, none, none, none] H := fun H hH => by
      rw [ec]
      have lH := hH.kept.le
      exact hK _ _ ⟨turn + 1, s1, t1, _, _, _, _, _, _, rfl, hk3.trans hH.kept, M6.frame fun a o _ e => hH.kept a o e, M5.frame fun a o _ e => hH.kept a o e, fun a g => by have := lt3 a g; omega, fun a g => by have := lt4 a g; omega, dis2, o3, o4, L1, c1, R3, by omega, B1, by omega, by omega⟩
    cases long with
    | true =>
      rw [if_neg (by decide)]
      exact fin h3 Ext.refl
    | false =>
      rw [if_pos (show (!false) = true from rfl)]
      refine s_cell (lstOf_kept hk3 hs0) (by omega) (s_mixed (by omega) (by omega) fun z _ _ => s_alike S1 M6 M5 L1 fun H hH => ?_)
      refine ⟨true, rfl, ?_⟩
      rw [if_neg (by decide)]
      exact fin H hH
end
end Py

set_option Elab.async false
set_option linter.all false
set_option maxRecDepth 100000
set_option maxHeartbeats 4000000
/-! Law 63, over the reading: the promise. -/
namespace Py
open PySem
section
variable {P : Pg} {most : Int} {h h0 : PH} {br lr kr hr vr : Nat} {tb : List Nat} {ns : List Int} {Q : KQ} {X : KX}
structure Laid (P : Pg) (h : PH) (br lr kr hr vr : Nat) (tb : List Nat) (ns : List Int) : Prop where
  pr : Prg P h kr hr vr
  sc : lstOf h (.ref 0) = some (ns.map PV.int)
  eb : h[br]? = some (.lst P.code)
  el : h[lr]? = some (.lst (tb.map .ref))
  etl : tb.length = P.many
  et : ∀ (i t : Nat), tb[i]? = some t → ∃ xs, P.tabs[i]? = some xs ∧ h[t]? = some (.lst xs)
theorem Laid.kept {h' : PH} (L : Laid P h br lr kr hr vr tb ns) (k : Kept h h') : Laid P h' br lr kr hr vr tb ns :=
  ⟨L.pr.kept k, lstOf_kept k L.sc, k _ _ L.eb, k _ _ L.el, L.etl, fun i t e => by obtain ⟨xs, a, b⟩ := L.et i t e; exact ⟨xs, a, k _ _ b⟩⟩
/-- the machine made of copies -/
theorem mach {h : PH} {b1 b2 b3 : Nat} {tb2 : List Nat} {keeps : Bool} (ok : P.Ok) (e1 : lstOf h (.ref b1) = some P.code) (e2 : lstOf h (.ref b2) = some (tb2.map .ref)) (etl : tb2.length = P.many) (et : ∀ (i t : Nat), tb2[i]? = some t → ∃ xs, P.tabs[i]? = some xs ∧ lstOf h (.ref t) = some xs) (e3 : lstOf h (.ref b3) = some [])
    (q : ∀ (h' : PH) (p ac ah sp ap am d : Nat) (th : List Nat), Kept h h' → MC (P.cf most keeps) (fun a => h.length ≤ a ∧ a < h'.length) 0 h' p ac ah sp ap am d th (st0 (P.code.length - 1) [] 0) → Q (.ref p) h') :
    callS sgT 6 (.mk n_Machine) [.ref b1, .ref b2, .ref b3, .int most, .bl keeps] h Q X := by
  have hm := ok.m1
  refine s_machine (k := 2) (tb := tb2) (tabs := P.tabs) e1 e2 (by unfold Pg.tabs; simp [etl]) et (by omega) e3 (show atI P.code (-1) = some (.tup [.int 0, .int 0, .tup P.mainR]) from at_last) (by show (0 : Int) ≤ 0 - 0; decide) (by show (0 : Int) - 0 ≤ 900; decide) (by show 0 ≤ 900; decide) fun h' p ac ah sp ap am d th hk _ M => q h' p ac ah sp ap am d th hk M
theorem law_6 {h00 : PH} {p1 ac1 ah1 sp1 ap1 am1 d1 : Nat} {th1 : List Nat} {p2 ac2 ah2 sp2 ap2 am2 d2 : Nat} {th2 : List Nat} {Fp1 Fp2 : Nat → Prop} (La : Laid P h00 br lr kr hr vr tb ns) (hk : Kept h00 h) (M1 : MC (P.cf most true) Fp1 0 h p1 ac1 ah1 sp1 ap1 am1 d1 th1 (st0 (P.code.length - 1) [] 0)) (M2 : MC (P.cf most false) Fp2 0 h p2 ac2 ah2 sp2 ap2 am2 d2 th2 (st0 (P.code.length - 1) [] 0)) (o1 : ∀ a, Fp1 a → h00.length ≤ a) (o2 : ∀ a, Fp2 a → h00.length ≤ a) (lt1 : ∀ a, Fp1 a → a < h.length) (lt2 : ∀ a, Fp2 a → a < h.length) (dis : ∀ a, Fp1 a → ¬ Fp2 a) :
    evB sgT (callS sgT lawK) b_law_6 [some (.ref 0), some (.tup [.ref br, .ref lr, .ref kr, .ref hr, .ref vr, .int P.count, .int P.last]), some (.int most), some (.ref p1), some (.ref p2), none, none, none, none, none, none] h endK := by
  simp only [evB, evS, evE, evEs, evO, evC, evT, evG, evGs, bAdd, bAddT, bSub, bMulL, bMulR, bDivL, bModL, cLt, cLe, cGt, cGe, cIs, cNot, iT0, iT1, fMin, fMax, fAbs, fLenT, tyT, tyI, tyB, tyS, truB, truI, ex_int, ex_bl, ex_tup, ex_some, ex_cons, eq_self, ex_var, eq_int, ne_int, eq_lit, ne_lit, startL, List.map_cons, List.map_nil, List.cons_append, List.nil_append, List.length_cons, List.length_nil, List.replicate, List.getElem?_cons_zero, List.getElem?_cons_succ, List.set_cons_zero, List.set_cons_succ, lenTs, Int.reduceToNat, Int.reducePow, Int.reduceSub, Int.reduceAdd, Int.reduceMul, Int.reduceNeg, Int.reduceLT, Int.reduceLE, Int.reduceEq, Nat.reduceLT, Nat.reduceLeDiff, Nat.reduceAdd, Nat.reduceSub, Nat.reducePow, bPowL, SZ, tyOf, evI, items_ref, items_tup, live_ref, live_tup, lstOf_new, true_and, and_true, ne_eq, not_true_eq_false, not_false_eq_true, Int.cast_ofNat_Int, decide_eq_true_eq, if_true, if_false, ite_true, ite_false, List.nil_append, isB, String.reduceBEq, String.reduceEq, decide_true, decide_false, Bool.false_eq_true, Bool.or_false, Bool.and_false, Bool.or_true, Bool.and_true, Bool.true_and, Bool.false_and, Bool.not_true, Bool.not_false, ite_true, ite_false, reduceIte, Bool.true_or, Bool.false_or, gt_iff_lt, ge_iff_le, iM1, iM1', iM2, cut_last, cut_last2, slT, fTupL, fTupT, fListL, fInt, fIntB, wipe0, wipe1, tNs, tsNs, inT, isBl, notBl, List.all_cons, List.all_nil, List.any_cons, List.any_nil, flP, eqP, isBlB, notRef, lit_beq, List.append_nil, List.not_mem_nil, isNonB, Int.neg_neg, Int.reduceNegSucc, b_law_6, lawK]
  rw [iAt (show atI [PV.ref br, .ref lr, .ref kr, .ref hr, .ref vr, .int P.count, .int P.last] 5 = some (.int P.count) from rfl)]
  simp only [evB, evS, evE, evEs, evO, evC, evT, evG, evGs, bAdd, bAddT, bSub, bMulL, bMulR, bDivL, bModL, cLt, cLe, cGt, cGe, cIs, cNot, iT0, iT1, fMin, fMax, fAbs, fLenT, tyT, tyI, tyB, tyS, truB, truI, ex_int, ex_bl, ex_tup, ex_some, ex_cons, eq_self, ex_var, eq_int, ne_int, eq_lit, ne_lit, startL, List.map_cons, List.map_nil, List.cons_append, List.nil_append, List.length_cons, List.length_nil, List.replicate, List.getElem?_cons_zero, List.getElem?_cons_succ, List.set_cons_zero, List.set_cons_succ, lenTs, Int.reduceToNat, Int.reducePow, Int.reduceSub, Int.reduceAdd, Int.reduceMul, Int.reduceNeg, Int.reduceLT, Int.reduceLE, Int.reduceEq, Nat.reduceLT, Nat.reduceLeDiff, Nat.reduceAdd, Nat.reduceSub, Nat.reducePow, bPowL, SZ, tyOf, evI, items_ref, items_tup, live_ref, live_tup, lstOf_new, true_and, and_true, ne_eq, not_true_eq_false, not_false_eq_true, Int.cast_ofNat_Int, decide_eq_true_eq, if_true, if_false, ite_true, ite_false, List.nil_append, isB, String.reduceBEq, String.reduceEq, decide_true, decide_false, Bool.false_eq_true, Bool.or_false, Bool.and_false, Bool.or_true, Bool.and_true, Bool.true_and, Bool.false_and, Bool.not_true, Bool.not_false, ite_true, ite_false, reduceIte, Bool.true_or, Bool.false_or, gt_iff_lt, ge_iff_le, iM1, iM1', iM2, cut_last, cut_last2, slT, fTupL, fTupT, fListL, fInt, fIntB, wipe0, wipe1, tNs, tsNs, inT, isBl, notBl, List.all_cons, List.all_nil, List.any_cons, List.any_nil, flP, eqP, isBlB, notRef, lit_beq, List.append_nil, List.not_mem_nil, isNonB, Int.neg_neg, Int.reduceNegSucc]
  have ok := La.pr.ok
  obtain ⟨made, m, se, hm, R, V, ok2, okm⟩ := run_all (P := P) (most := most) (nb := (P.code.length : Int) - 1) ok (by unfold Pg.code; simp; omega)
  exact law_8 La.sc La.pr hk M1 M2 lt1 lt2 dis o1 o2 ⟨rfl, rfl, rfl, rfl, rfl, rfl, rfl, rfl⟩ (fun x p hp => by cases hp) R hm ⟨Nat.le_refl _, Nat.le_refl _, Nat.le_refl _, Nat.le_refl _⟩ ⟨V.pile, by rw [V.made]; exact okm, by rw [V.ended]; exact (answer_small ok).2.2⟩ V.ended V.cnt V.sought V.met
theorem made (La : Laid P h br lr kr hr vr tb ns) {body : PH → Prop} (q : ∀ (H2 : PH) (th : List Nat), Kept (h ++ [PO.lst P.code]) H2 → H2[(h ++ [PO.lst P.code]).length]? = some (.lst (th.map .ref)) → th.length = P.many → (∀ (i t : Nat), th[i]? = some t → ∃ xs, P.tabs[i]? = some xs ∧ H2[t]? = some (.lst xs)) → body H2) :
    ∃ xs, lstOf (h ++ [PO.lst P.code]) (PV.ref lr) = some xs ∧ compL (liveL (PV.ref lr) xs) (List.length (h ++ [PO.lst P.code])) (fun x h2 k => bfV BF.list1 [x] h2 fun y h5 => k (some y) h5) body xs (h ++ [PO.lst P.code] ++ [PO.lst []]) := by
  have e0 := lst_got (get_app (t := [PO.lst P.code]) La.el)
  have hm := La.pr.ok.m1
  have etl := La.etl
  refine ⟨_, e0, ?_⟩
  refine comp_copies rfl (fun h' hk => lstOf_kept hk e0) tb P.tabs _ [] [] (by unfold Pg.tabs; simp [La.etl]) (fun i t e => ?_) (fun t xs h' K e hK => ?_) Kept.app get_new rfl (fun i t e => by cases e) (by show 0 + tb.length < 1000; omega) fun H2 th hk2 e2 tl tt => ?_
  · obtain ⟨xs, a, b⟩ := La.et i t e
    exact ⟨xs, a, lst_got (get_app b)⟩
  · exact ⟨_, e, hK⟩
  · refine q H2 th hk2 e2 ?_ fun i t e => (tt i t e).2
    rw [tl]; unfold Pg.tabs; simp
theorem law_5 {h00 : PH} {p1 ac1 ah1 sp1 ap1 am1 d1 : Nat} {th1 : List Nat} {Fp1 : Nat → Prop} (La : Laid P h00 br lr kr hr vr tb ns) (hk : Kept h00 h) (M1 : MC (P.cf most true) Fp1 0 h p1 ac1 ah1 sp1 ap1 am1 d1 th1 (st0 (P.code.length - 1) [] 0)) (o1 : ∀ a, Fp1 a → h00.length ≤ a) (lt1 : ∀ a, Fp1 a → a < h.length) :
    evB sgT (callS sgT lawK) b_law_5 [some (.ref 0), some (.tup [.ref br, .ref lr, .ref kr, .ref hr, .ref vr, .int P.count, .int P.last]), some (.int most), some (.ref p1), none, none, none, none, none, none, none] h endK := by
  simp only [evB, evS, evE, evEs, evO, evC, evT, evG, evGs, bAdd, bAddT, bSub, bMulL, bMulR, bDivL, bModL, cLt, cLe, cGt, cGe, cIs, cNot, iT0, iT1, fMin, fMax, fAbs, fLenT, tyT, tyI, tyB, tyS, truB, truI, ex_int, ex_bl, ex_tup, ex_some, ex_cons, eq_self, ex_var, eq_int, ne_int, eq_lit, ne_lit, startL, List.map_cons, List.map_nil, List.cons_append, List.nil_append, List.length_cons, List.length_nil, List.replicate, List.getElem?_cons_zero, List.getElem?_cons_succ, List.set_cons_zero, List.set_cons_succ, lenTs, Int.reduceToNat, Int.reducePow, Int.reduceSub, Int.reduceAdd, Int.reduceMul, Int.reduceNeg, Int.reduceLT, Int.reduceLE, Int.reduceEq, Nat.reduceLT, Nat.reduceLeDiff, Nat.reduceAdd, Nat.reduceSub, Nat.reducePow, bPowL, SZ, tyOf, evI, items_ref, items_tup, live_ref, live_tup, lstOf_new, true_and, and_true, ne_eq, not_true_eq_false, not_false_eq_true, Int.cast_ofNat_Int, decide_eq_true_eq, if_true, if_false, ite_true, ite_false, List.nil_append, isB, String.reduceBEq, String.reduceEq, decide_true, decide_false, Bool.false_eq_true, Bool.or_false, Bool.and_false, Bool.or_true, Bool.and_true, Bool.true_and, Bool.false_and, Bool.not_true, Bool.not_false, ite_true, ite_false, reduceIte, Bool.true_or, Bool.false_or, gt_iff_lt, ge_iff_le, iM1, iM1', iM2, cut_last, cut_last2, slT, fTupL, fTupT, fListL, fInt, fIntB, wipe0, wipe1, tNs, tsNs, inT, isBl, notBl, List.all_cons, List.all_nil, List.any_cons, List.any_nil, flP, eqP, isBlB, notRef, lit_beq, List.append_nil, List.not_mem_nil, isNonB, Int.neg_neg, Int.reduceNegSucc, b_law_5, lawK]
  have L2 := La.kept hk
  refine ⟨_, lst_got L2.eb, ?_⟩
  refine made L2 fun H2 th hk2 e2 tl tt => ?_
  have l2 := hk2.le
  have lh : (h ++ [PO.lst P.code]).length = h.length + 1 := by simp
  have hkA : Kept h (H2 ++ [PO.lst []]) := Kept.app.trans (hk2.trans Kept.app)
  have l0 := hk.le
  refine mach La.pr.ok (lst_got (get_app (hk2 _ _ get_new))) (lst_got (get_app e2)) tl (fun i t e => by obtain ⟨xs, a, b⟩ := tt i t e; exact ⟨xs, a, lst_got (get_app b)⟩) lstOf_new fun h' p ac ah sp ap am d th hk' M => ?_
  have hkB := hkA.trans hk'
  have lB := hkB.le
  have l3 : (H2 ++ [PO.lst []]).length = H2.length + 1 := by simp
  exact law_6 La (hk.trans hkB) (M1.frame fun a o _ e => hkB a o e) M o1 (fun a g => by have := g.1; omega) (fun a g => by have := lt1 a g; omega) (fun a g => g.2) fun a g1 g2 => by have := lt1 a g1; have := g2.1; omega
theorem law_4 (La : Laid P h br lr kr hr vr tb ns) :
    evB sgT (callS sgT lawK) b_law_4 [some (.ref 0), some (.tup [.ref br, .ref lr, .ref kr, .ref hr, .ref vr, .int P.count, .int P.last]), some (.int most), none, none, none, none, none, none, none, none] h endK := by
  simp only [evB, evS, evE, evEs, evO, evC, evT, evG, evGs, bAdd, bAddT, bSub, bMulL, bMulR, bDivL, bModL, cLt, cLe, cGt, cGe, cIs, cNot, iT0, iT1, fMin, fMax, fAbs, fLenT, tyT, tyI, tyB, tyS, truB, truI, ex_int, ex_bl, ex_tup, ex_some, ex_cons, eq_self, ex_var, eq_int, ne_int, eq_lit, ne_lit, startL, List.map_cons, List.map_nil, List.cons_append, List.nil_append, List.length_cons, List.length_nil, List.replicate, List.getElem?_cons_zero, List.getElem?_cons_succ, List.set_cons_zero, List.set_cons_succ, lenTs, Int.reduceToNat, Int.reducePow, Int.reduceSub, Int.reduceAdd, Int.reduceMul, Int.reduceNeg, Int.reduceLT, Int.reduceLE, Int.reduceEq, Nat.reduceLT, Nat.reduceLeDiff, Nat.reduceAdd, Nat.reduceSub, Nat.reducePow, bPowL, SZ, tyOf, evI, items_ref, items_tup, live_ref, live_tup, lstOf_new, true_and, and_true, ne_eq, not_true_eq_false, not_false_eq_true, Int.cast_ofNat_Int, decide_eq_true_eq, if_true, if_false, ite_true, ite_false, List.nil_append, isB, String.reduceBEq, String.reduceEq, decide_true, decide_false, Bool.false_eq_true, Bool.or_false, Bool.and_false, Bool.or_true, Bool.and_true, Bool.true_and, Bool.false_and, Bool.not_true, Bool.not_false, ite_true, ite_false, reduceIte, Bool.true_or, Bool.false_or, gt_iff_lt, ge_iff_le, iM1, iM1', iM2, cut_last, cut_last2, slT, fTupL, fTupT, fListL, fInt, fIntB, wipe0, wipe1, tNs, tsNs, inT, isBl, notBl, List.all_cons, List.all_nil, List.any_cons, List.any_nil, flP, eqP, isBlB, notRef, lit_beq, List.append_nil, List.not_mem_nil, isNonB, Int.neg_neg, Int.reduceNegSucc, b_law_4, lawK]
  refine ⟨_, lst_got La.eb, ?_⟩
  refine made La fun H2 th hk2 e2 tl tt => ?_
  have l2 := hk2.le
  have lh : (h ++ [PO.lst P.code]).length = h.length + 1 := by simp
  have hkA : Kept h (H2 ++ [PO.lst []]) := Kept.app.trans (hk2.trans Kept.app)
  refine mach La.pr.ok (lst_got (get_app (hk2 _ _ get_new))) (lst_got (get_app e2)) tl (fun i t e => by obtain ⟨xs, a, b⟩ := tt i t e; exact ⟨xs, a, lst_got (get_app b)⟩) lstOf_new fun h' p ac ah sp ap am d th hk' M => ?_
  have hkB := hkA.trans hk'
  have l3 : (H2 ++ [PO.lst []]).length = H2.length + 1 := by simp
  exact law_5 La hkB M (fun a g => by have := g.1; omega) fun a g => g.2
end
theorem law_true : ∀ ns : List Int, ns.length ≤ lawMost → callS sgT (lawK + 1) (.fn n_law) [.ref 0] [.frl (ns.map PV.int)] (fun v _ => v = .bl true) (fun _ _ => False) := by
  intro ns hl
  rw [call_in (d := d_law) rfl rfl]
  have hl0 : lstOf [.frl (ns.map PV.int)] (.ref 0) = some (ns.map PV.int) := rfl
  generalize [PO.frl (ns.map PV.int)] = h00 at hl0
  have eb : d_law.body = _ := b_law_cut
  rw [eb]
  simp only [evB, evS, evE, evEs, evO, evC, evT, evG, evGs, bAdd, bAddT, bSub, bMulL, bMulR, bDivL, bModL, cLt, cLe, cGt, cGe, cIs, cNot, iT0, iT1, fMin, fMax, fAbs, fLenT, tyT, tyI, tyB, tyS, truB, truI, ex_int, ex_bl, ex_tup, ex_some, ex_cons, eq_self, ex_var, eq_int, ne_int, eq_lit, ne_lit, startL, List.map_cons, List.map_nil, List.cons_append, List.nil_append, List.length_cons, List.length_nil, List.replicate, List.getElem?_cons_zero, List.getElem?_cons_succ, List.set_cons_zero, List.set_cons_succ, lenTs, Int.reduceToNat, Int.reducePow, Int.reduceSub, Int.reduceAdd, Int.reduceMul, Int.reduceNeg, Int.reduceLT, Int.reduceLE, Int.reduceEq, Nat.reduceLT, Nat.reduceLeDiff, Nat.reduceAdd, Nat.reduceSub, Nat.reducePow, bPowL, SZ, tyOf, evI, items_ref, items_tup, live_ref, live_tup, lstOf_new, true_and, and_true, ne_eq, not_true_eq_false, not_false_eq_true, Int.cast_ofNat_Int, decide_eq_true_eq, if_true, if_false, ite_true, ite_false, List.nil_append, isB, String.reduceBEq, String.reduceEq, decide_true, decide_false, Bool.false_eq_true, Bool.or_false, Bool.and_false, Bool.or_true, Bool.and_true, Bool.true_and, Bool.false_and, Bool.not_true, Bool.not_false, ite_true, ite_false, reduceIte, Bool.true_or, Bool.false_or, gt_iff_lt, ge_iff_le, iM1, iM1', iM2, cut_last, cut_last2, slT, fTupL, fTupT, fListL, fInt, fIntB, wipe0, wipe1, tNs, tsNs, inT, isBl, notBl, List.all_cons, List.all_nil, List.any_cons, List.any_nil, flP, eqP, isBlB, notRef, lit_beq, List.append_nil, List.not_mem_nil, isNonB, Int.neg_neg, Int.reduceNegSucc, d_law, lawK]
  refine s_program hl0 fun P h' br lr kr hr vr tb ok hk e1 e2 e3 e4 e5 e6 e7 => ?_
  have La : Laid P h' br lr kr hr vr tb ns := ⟨⟨ok, e5, e6, e7⟩, lstOf_kept hk hl0, e1, e2, e3, e4⟩
  refine s_cell La.sc (by omega) ?_
  simp only [evB, evS, evE, evEs, evO, evC, evT, evG, evGs, bAdd, bAddT, bSub, bMulL, bMulR, bDivL, bModL, cLt, cLe, cGt, cGe, cIs, cNot, iT0, iT1, fMin, fMax, fAbs, fLenT, tyT, tyI, tyB, tyS, truB, truI, ex_int, ex_bl, ex_tup, ex_some, ex_cons, eq_self, ex_var, eq_int, ne_int, eq_lit, ne_lit, startL, List.map_cons, List.map_nil, List.cons_append, List.nil_append, List.length_cons, List.length_nil, List.replicate, List.getElem?_cons_zero, List.getElem?_cons_succ, List.set_cons_zero, List.set_cons_succ, lenTs, Int.reduceToNat, Int.reducePow, Int.reduceSub, Int.reduceAdd, Int.reduceMul, Int.reduceNeg, Int.reduceLT, Int.reduceLE, Int.reduceEq, Nat.reduceLT, Nat.reduceLeDiff, Nat.reduceAdd, Nat.reduceSub, Nat.reducePow, bPowL, SZ, tyOf, evI, items_ref, items_tup, live_ref, live_tup, lstOf_new, true_and, and_true, ne_eq, not_true_eq_false, not_false_eq_true, Int.cast_ofNat_Int, decide_eq_true_eq, if_true, if_false, ite_true, ite_false, List.nil_append, isB, String.reduceBEq, String.reduceEq, decide_true, decide_false, Bool.false_eq_true, Bool.or_false, Bool.and_false, Bool.or_true, Bool.and_true, Bool.true_and, Bool.false_and, Bool.not_true, Bool.not_false, ite_true, ite_false, reduceIte, Bool.true_or, Bool.false_or, gt_iff_lt, ge_iff_le, iM1, iM1', iM2, cut_last, cut_last2, slT, fTupL, fTupT, fListL, fInt, fIntB, wipe0, wipe1, tNs, tsNs, inT, isBl, notBl, List.all_cons, List.all_nil, List.any_cons, List.any_nil, flP, eqP, isBlB, notRef, lit_beq, List.append_nil, List.not_mem_nil, isNonB, Int.neg_neg, Int.reduceNegSucc, b_law_3]
  refine s_cell La.sc (by omega) ?_
  simp only [evB, evS, evE, evEs, evO, evC, evT, evG, evGs, bAdd, bAddT, bSub, bMulL, bMulR, bDivL, bModL, cLt, cLe, cGt, cGe, cIs, cNot, iT0, iT1, fMin, fMax, fAbs, fLenT, tyT, tyI, tyB, tyS, truB, truI, ex_int, ex_bl, ex_tup, ex_some, ex_cons, eq_self, ex_var, eq_int, ne_int, eq_lit, ne_lit, startL, List.map_cons, List.map_nil, List.cons_append, List.nil_append, List.length_cons, List.length_nil, List.replicate, List.getElem?_cons_zero, List.getElem?_cons_succ, List.set_cons_zero, List.set_cons_succ, lenTs, Int.reduceToNat, Int.reducePow, Int.reduceSub, Int.reduceAdd, Int.reduceMul, Int.reduceNeg, Int.reduceLT, Int.reduceLE, Int.reduceEq, Nat.reduceLT, Nat.reduceLeDiff, Nat.reduceAdd, Nat.reduceSub, Nat.reducePow, bPowL, SZ, tyOf, evI, items_ref, items_tup, live_ref, live_tup, lstOf_new, true_and, and_true, ne_eq, not_true_eq_false, not_false_eq_true, Int.cast_ofNat_Int, decide_eq_true_eq, if_true, if_false, ite_true, ite_false, List.nil_append, isB, String.reduceBEq, String.reduceEq, decide_true, decide_false, Bool.false_eq_true, Bool.or_false, Bool.and_false, Bool.or_true, Bool.and_true, Bool.true_and, Bool.false_and, Bool.not_true, Bool.not_false, ite_true, ite_false, reduceIte, Bool.true_or, Bool.false_or, gt_iff_lt, ge_iff_le, iM1, iM1', iM2, cut_last, cut_last2, slT, fTupL, fTupT, fListL, fInt, fIntB, wipe0, wipe1, tNs, tsNs, inT, isBl, notBl, List.all_cons, List.all_nil, List.any_cons, List.any_nil, flP, eqP, isBlB, notRef, lit_beq, List.append_nil, List.not_mem_nil, isNonB, Int.neg_neg, Int.reduceNegSucc]
  split
  · rw [iAt (show atI [PV.ref br, .ref lr, .ref kr, .ref hr, .ref vr, .int P.count, .int P.last] 5 = some (.int P.count) from rfl)]
    rw [bMulOk (by have := ok.count; omega)]
    refine s_cell La.sc (by omega) ?_
    simp only [evB, evS, evE, evEs, evO, evC, evT, evG, evGs, bAdd, bAddT, bSub, bMulL, bMulR, bDivL, bModL, cLt, cLe, cGt, cGe, cIs, cNot, iT0, iT1, fMin, fMax, fAbs, fLenT, tyT, tyI, tyB, tyS, truB, truI, ex_int, ex_bl, ex_tup, ex_some, ex_cons, eq_self, ex_var, eq_int, ne_int, eq_lit, ne_lit, startL, List.map_cons, List.map_nil, List.cons_append, List.nil_append, List.length_cons, List.length_nil, List.replicate, List.getElem?_cons_zero, List.getElem?_cons_succ, List.set_cons_zero, List.set_cons_succ, lenTs, Int.reduceToNat, Int.reducePow, Int.reduceSub, Int.reduceAdd, Int.reduceMul, Int.reduceNeg, Int.reduceLT, Int.reduceLE, Int.reduceEq, Nat.reduceLT, Nat.reduceLeDiff, Nat.reduceAdd, Nat.reduceSub, Nat.reducePow, bPowL, SZ, tyOf, evI, items_ref, items_tup, live_ref, live_tup, lstOf_new, true_and, and_true, ne_eq, not_true_eq_false, not_false_eq_true, Int.cast_ofNat_Int, decide_eq_true_eq, if_true, if_false, ite_true, ite_false, List.nil_append, isB, String.reduceBEq, String.reduceEq, decide_true, decide_false, Bool.false_eq_true, Bool.or_false, Bool.and_false, Bool.or_true, Bool.and_true, Bool.true_and, Bool.false_and, Bool.not_true, Bool.not_false, ite_true, ite_false, reduceIte, Bool.true_or, Bool.false_or, gt_iff_lt, ge_iff_le, iM1, iM1', iM2, cut_last, cut_last2, slT, fTupL, fTupT, fListL, fInt, fIntB, wipe0, wipe1, tNs, tsNs, inT, isBl, notBl, List.all_cons, List.all_nil, List.any_cons, List.any_nil, flP, eqP, isBlB, notRef, lit_beq, List.append_nil, List.not_mem_nil, isNonB, Int.neg_neg, Int.reduceNegSucc]
    exact law_4 La
  · exact law_4 La
end Py

set_option Elab.async false
set_option linter.all false
set_option maxRecDepth 100000
set_option maxHeartbeats 0
open PySem PySem.W PySem.Calls PyProof.Rows
theorem PySem.Challenge.cw_elderhouse_k63_whole_remembered_or_not_holds : PySem.Challenge.rw_elderhouse_k63_whole_remembered_or_not.Holds := by
  w_on; o_law
  refine HandSHeadRun.head_any (r := OpenLaw.row PySem.Challenge.rw_elderhouse_k63_whole_remembered_or_not) (q := view (OpenLaw.row PySem.Challenge.rw_elderhouse_k63_whole_remembered_or_not).prog [25]) (H := Py.hk) (ob := Py.ob) (M := 100000) (loose := Py.topNames) (d := HandSHeadRun.topDef (OpenLaw.row PySem.Challenge.rw_elderhouse_k63_whole_remembered_or_not).prog 25) (kwd := []) Py.ob_eq
    (by kernel_rfl) (fun s => by kernel_rfl) Py.run (by kernel_rfl) (by kernel_rfl) (by kernel_rfl) (by rfl) (by first | assumption | decide +kernel) (by decide +kernel) ⟨rfl, rfl, rfl, rfl, rfl, by decide +kernel⟩ ?hw ?hc
  case hw => w_witness2
  case hc =>
    refine Py.walk_ofG (l := PySem.Challenge.rw_elderhouse_k63_whole_remembered_or_not) (n := Py.lawMost) (k := Py.lawK + 1) (x := "_law_script") rfl (by decide) (by kernel_rfl) ⟨rfl, by decide, by decide⟩ ?F
    intro w mg fa h Y G hmg0
    obtain ⟨K, KX, c, cc⟩ := Y
    have hmg : mg ("law" : PySem.Str) = some (.ref fa) := by
      have e : (HandSHeadRun.topDef (OpenLaw.row PySem.Challenge.rw_elderhouse_k63_whole_remembered_or_not).prog 25).name = ("law" : PySem.Str) := by kernel_rfl
      rw [← e]
      exact hmg0
    obtain ⟨fd, hb, hF⟩ := Py.facts (P := (PySem.Challenge.rw_elderhouse_k63_whole_remembered_or_not).prog) (w := w) (k := Py.lawK) (n := 1) KX G hmg c cc
    exact ⟨K, fd, Py.spF (Py.moT K) (Py.lawK + 1) Py.n_law 1, KX, hb, fun H a ns hl hO hS => Py.law_sp (n := Py.lawMost) (dL := Py.d_law) rfl rfl Py.law_true H a ns hl hO hS, hF⟩

