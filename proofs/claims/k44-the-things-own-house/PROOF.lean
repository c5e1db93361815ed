import PyProof.Rows.All
import Wide.All
import OpenK.AllK
import Wide.FinOn
import HandS.ForMost
import HandS.Defaults
import HandS.HeadHook1
import HandS.HeadHook2
import HandS.HeadHook3
import HandS.HeadHook4
import KE.KStateDown
import HandS.Head0
import HandS.Head1
import HandS.Head2
import HandS.MakeKw
import PySem.Challenge.RW_elderhouse_k44_the_things_own_house
import HandS.Wide
import HandS.CallSlots
import HandS.Ends
import HandS.Walk
import HandS.TupAny
import HandS.TupMul
import HandS.ForExc
import HandS.IsInst
import HandS.Dict
import PyProof.ListMulRoad
import PyProof.FactsAll.tuple_2
import PyProof.StrOps2
import HandS.Deep
import HandS.RaiseMore
import HandS.Text
import HandS.Comp
import HandS.List
import PyProof.ZipIter
import PyProof.EnumIter
import HandS.Zip
import HandS.Style
import HandS.New0
import HandS.NoneIn
import HandS.Conv
import HandS.CallRecv
import HandS.Small
import HandS.Codes
set_option Elab.async false
set_option linter.all false
set_option maxRecDepth 100000
/-! PyDen: a small semantics of the Python at hand: values (tuples are values), a heap as a list, a reading of each form as a predicate transformer. -/
namespace Py
open PySem

/-! ### values and objects -/
inductive PV where
  | non | bl (b : Bool) | int (i : Int) | str (s : Str) | tup (xs : List PV) | ref (a : Nat)
inductive PO where
  | lst (xs : List PV)
  | frl (xs : List PV)
  | dic (kvs : List (PV × PV))
  | ins (c : Nat) (fs : List (Nat × PV))
abbrev PH := List PO
abbrev Loc := List (Option PV)
abbrev KQ := PV → PH → Prop
structure XV where
  c : Nat
  fs : List (Nat × PV)
abbrev KX := XV → PH → Prop
abbrev SZ : Nat := 16777216

/-! ### syntax -/
inductive BO where
  | add | sub | mul | fdiv | mod | pow
  deriving DecidableEq
inductive CO where
  | eq | ne | lt | le | gt | ge | inn | nin | isN | notN
  deriving DecidableEq
/-- built-in functions -/
inductive BF where
  | len | list1 | tuple1 | tuple0 | isInt | isBool | isStr | isList | isTuple | min2 | max2 | minL | maxL | sumL | abs | int1 | str1 | repr1 | sorted1 | all1 | dict1 | dict0
  deriving DecidableEq
/-- methods of built-in types -/
inductive BM where
  | append | extend | pop0 | pop1 | insert | reverse | clear | index | get1 | get2 | join | split | startswith | update | isalnum | upper
  deriving DecidableEq
mutual
inductive E where
  | var (i : Nat) | int (i : Int) | str (s : Str) | bl (b : Bool) | non
  | glob (g : Nat)
  | bin (o : BO) (a b : E) | neg (a : E) | nt (a : E) | and (a b : E) | or (a b : E)
  | cmp (o : CO) (a b : E) | chain (o o' : CO) (a b c : E) | ite (c : C) (a b : E)
  | tup (es : Es) | lst (es : Es) | dic0
  | idx (a b : E) | slc (a : E) (lo hi : OE)
  | attr (a : E) (f : Nat)
  | call (f : Nat) (args : Es) | mk (c : Nat) (args : Es) | mkK (c : Nat) (args : Es) (last : E) | slr (a : E) | dicl (ks : List Str) (vs : Es) | meth (o : E) (m : Nat) (args : Es) | ini (c : Nat) (args : Es) | mk0 (c : Nat) | lrg1 (a : E)
  | isi (f : BF) (a : E) | bf (f : BF) (args : Es) | bm (m : BM) (o : E) (args : Es)
  | lc (elt : E) (t : T) (it : I) (cond : OC)
  | dget (o a b : E)
inductive Es where
  | nil | cons (e : E) (es : Es)
inductive OE where
  | no | so (e : E)
/-- tests -/
inductive C where
  | v (e : E) | cmp (o : CO) (a b : E) | chain (o o' : CO) (a b c : E) | nt (c : C) | and (a b : C) | or (a b : C)
inductive OC where
  | no | so (c : C)
/-- what a loop walks -/
inductive I where
  | seq (e : E) | rng1 (a : E) | rng2 (a b : E) | enu (e : E) | zip2 (a b : E) | rev (e : E)
/-- targets -/
inductive T where
  | nm (i : Nat) | tup (ts : Ts) | attr (o : E) (f : Nat) | sub (o i : E)
inductive Ts where
  | nil | cons (t : T) (ts : Ts)
end
mutual
inductive S where
  | asg (t : T) (e : E) | aug (i : Nat) (o : BO) (e : E) | augF (ob : E) (f : Nat) (o : BO) (e : E) | augS (ob ix : E) (o : BO) (e : E)
  | exp (e : E) | ret (e : E) | retN | ife (c : C) (a b : B) | for (t : T) (it : I) (b : B) | whl (c : C) (b : B) | pas | cont
  | rais (c : Nat) (args : Es) | rai0
inductive B where
  | nil | cons (s : S) (b : B)
end

/-! ### looks at the heap -/
def lstOf (h : PH) : PV → Option (List PV)
  | .ref a => match h[a]? with
    | some (.lst xs) => some xs
    | some (.frl xs) => some xs
    | _ => none
  | _ => none
def seqOf (h : PH) : PV → Option (List PV)
  | .tup xs => some xs
  | v => lstOf h v
def dicOf (h : PH) : PV → Option (List (PV × PV))
  | .ref a => match h[a]? with
    | some (.dic kvs) => some kvs
    | _ => none
  | _ => none
def truV (h : PH) : PV → Option Bool
  | .non => some false
  | .bl b => some b
  | .int i => some (i != 0)
  | .str s => if s.length ≤ SZ then some ((s.length : Int) != 0) else none
  | .tup xs => some (!xs.isEmpty)
  | .ref a => match h[a]? with
    | some (.lst xs) => some (!xs.isEmpty)
    | some (.frl xs) => some (!xs.isEmpty)
    | some (.dic kvs) => some (!kvs.isEmpty)
    | _ => none
/-! a value as data -/
mutual
def Dat (h : PH) : PyData → PV → Prop
  | .none, v => v = .non
  | .bool b, v => v = .bl b
  | .int i, v => v = .int i
  | .str s, v => v = .str s
  | .tuple ds, v => ∃ xs, v = .tup xs ∧ Dats h ds xs
  | .list ds, v => ∃ xs, lstOf h v = some xs ∧ Dats h ds xs
  | .dict _, _ => False
def Dats (h : PH) : List PyData → List PV → Prop
  | [], xs => xs = []
  | d :: ds, xs => ∃ y ys, xs = y :: ys ∧ Dat h d y ∧ Dats h ds ys
end
def putN (f : Nat) (v : PV) : List (Nat × PV) → List (Nat × PV)
  | [] => [(f, v)]
  | (g, x) :: r => if g = f then (g, v) :: r else (g, x) :: putN f v r
def getN (f : Nat) : List (Nat × PV) → Option PV
  | [] => none
  | (g, x) :: r => if g = f then some x else getN f r
def ixN (n : Nat) (i : Int) : Option Nat := if 0 ≤ i then (if i < n then some i.toNat else none) else if -(n : Int) ≤ i then some (i + n).toNat else none
def atI {α : Type} (xs : List α) (i : Int) : Option α := (ixN xs.length i).bind fun j => xs[j]?
def sIx (n d : Nat) : Option Int → Nat
  | none => d
  | some v => if v < 0 then (v + (n : Int)).toNat else min v.toNat n
def cut {α : Type} (xs : List α) (lo hi : Option Int) : List α := (xs.drop (sIx xs.length 0 lo)).take (sIx xs.length xs.length hi - sIx xs.length 0 lo)

/-! ### operators -/
def mulOk (i j : Int) : Prop := (-(2 ^ 64) < i ∧ i < 2 ^ 64) ∨ (-(2 ^ 64) < j ∧ j < 2 ^ 64)
def binV : BO → PV → PV → PH → KQ → Prop
  | .add, .int i, .int j, h, Q => Q (.int (i + j)) h
  | .add, .str i, .str j, h, Q => i.length + j.length ≤ SZ ∧ Q (.str (i ++ j)) h
  | .add, .tup xs, .tup ys, h, Q => xs.length + ys.length ≤ SZ ∧ Q (.tup (xs ++ ys)) h
  | .add, .ref a, .ref b, h, Q => ∃ xs ys, h[a]? = some (.lst xs) ∧ h[b]? = some (.lst ys) ∧ xs.length + ys.length ≤ SZ ∧ Q (.ref h.length) (h ++ [.lst (xs ++ ys)])
  | .sub, .int i, .int j, h, Q => Q (.int (i - j)) h
  | .mul, .int i, .int j, h, Q => mulOk i j ∧ Q (.int (i * j)) h
  | .mul, .str a, .int k, h, Q => (-(2 ^ 63) ≤ k ∧ k < 2 ^ 63 ∧ a.length * k.toNat ≤ SZ ∧ a.length ≤ SZ) ∧ Q (.str ⟨(List.replicate k.toNat a.cps.toList).flatten.toArray⟩) h
  | .mul, .tup xs, .int k, h, Q => (xs ≠ [] ∧ -1000 ≤ k ∧ k ≤ 1000 ∧ xs.length ≤ 1000) ∧ Q (.tup (List.replicate k.toNat xs).flatten) h
  | .mul, .ref a, .int k, h, Q => ∃ xs, h[a]? = some (.lst xs) ∧ -(2 ^ 63) ≤ k ∧ k < 2 ^ 63 ∧ xs.length * k.toNat ≤ SZ ∧ Q (.ref h.length) (h ++ [.lst (List.replicate k.toNat xs).flatten])
  | .fdiv, .int i, .int j, h, Q => j ≠ 0 ∧ j.natAbs.log2 < 9000 ∧ Q (.int (i.fdiv j)) h
  | .mod, .int i, .int j, h, Q => j ≠ 0 ∧ Q (.int (i.fmod j)) h
  | .pow, .int i, .int j, h, Q => (0 ≤ j ∧ j ≤ 1000000 ∧ i.natAbs < 2 ^ 64) ∧ Q (.int (i ^ j.toNat)) h
  | _, _, _, _, _ => False
def isNonB : PV → Bool
  | .non => true
  | _ => false
def isBlB (b : Bool) : PV → Bool
  | .bl c => c == b
  | _ => false
def flP : PV → Bool
  | .non => true
  | .bl _ => true
  | .int _ => true
  | .str _ => true
  | _ => false
def eqP : PV → PV → Bool
  | .non, .non => true
  | .bl a, .bl b => a == b
  | .bl a, .int b => (if a then 1 else 0) == b
  | .int a, .bl b => a == (if b then 1 else 0)
  | .int a, .int b => a == b
  | .str a, .str b => a == b
  | _, _ => false
def notRef : PV → Bool
  | .ref _ => false
  | .tup _ => false
  | _ => true
def cmpV : CO → PV → PV → PH → (Bool → PH → Prop) → Prop
  | .eq, .str a, .str b, h, Q => Q (decide (a = b)) h
  | .ne, .str a, .str b, h, Q => Q (!decide (a = b)) h
  | .inn, .str a, .str b, h, Q => ∃ c, a = ⟨#[c]⟩ ∧ Q (decide (c ∈ b.cps.toList)) h
  | .nin, .str a, .str b, h, Q => ∃ c, a = ⟨#[c]⟩ ∧ Q (!decide (c ∈ b.cps.toList)) h
  | .inn, x, y, h, Q => ∃ xs, seqOf h y = some xs ∧ flP x = true ∧ xs.all flP = true ∧ Q (xs.any fun z => eqP z x) h
  | .nin, x, y, h, Q => ∃ xs, seqOf h y = some xs ∧ flP x = true ∧ xs.all flP = true ∧ Q (!xs.any fun z => eqP z x) h
  | .isN, x, .bl b, h, Q => notRef x = true ∧ Q (isBlB b x) h
  | .notN, x, .bl b, h, Q => notRef x = true ∧ Q (!isBlB b x) h
  | .eq, x, y, h, Q => (∃ d e, Dat h d x ∧ Dat h e y ∧ SeqAt.shaped d = true ∧ SeqAt.shaped e = true ∧ Q (PyData.eqv d e) h) ∨ ∃ a b xs ys, x = .ref a ∧ y = .ref b ∧ lstOf h (.ref a) = some xs ∧ lstOf h (.ref b) = some ys ∧ xs.length ≠ ys.length ∧ Q false h
  | .ne, x, y, h, Q => (∃ d e, Dat h d x ∧ Dat h e y ∧ SeqAt.shaped d = true ∧ SeqAt.shaped e = true ∧ Q (!PyData.eqv d e) h) ∨ ∃ a b xs ys, x = .ref a ∧ y = .ref b ∧ lstOf h (.ref a) = some xs ∧ lstOf h (.ref b) = some ys ∧ xs.length ≠ ys.length ∧ Q true h
  | .lt, .int i, .int j, h, Q => Q (decide (i < j)) h
  | .le, .int i, .int j, h, Q => Q (decide (i ≤ j)) h
  | .gt, .int i, .int j, h, Q => Q (decide (j < i)) h
  | .ge, .int i, .int j, h, Q => Q (decide (j ≤ i)) h
  | .isN, x, .non, h, Q => Q (isNonB x) h
  | .notN, x, .non, h, Q => Q (!isNonB x) h
  | _, _, _, _, _ => False
/-- keys -/
def eqK : PV → PV → Bool
  | .int i, .int j => decide (i = j)
  | .str i, .str j => decide (i = j)
  | _, _ => false
def isK : PV → Bool
  | .int _ => true
  | .str _ => true
  | _ => false
def lookD (k : PV) : List (PV × PV) → Option PV
  | [] => none
  | (x, y) :: r => if eqK x k = true then some y else lookD k r
def putD (k v : PV) (kvs : List (PV × PV)) : List (PV × PV) := if (kvs.any fun p => eqK p.1 k) = true then kvs.map (fun p => if eqK p.1 k = true then (p.1, v) else p) else kvs ++ [(k, v)]
def idxV : PV → PV → PH → KQ → Prop
  | .tup xs, .int i, h, Q => ∃ v, atI xs i = some v ∧ Q v h
  | .str s, .int i, h, Q => s.length ≤ SZ ∧ ∃ c, atI s.cps.toList i = some c ∧ Q (.str ⟨#[c]⟩) h
  | .ref a, .int i, h, Q => ∃ xs v, lstOf h (.ref a) = some xs ∧ atI xs i = some v ∧ Q v h
  | .ref a, .str k, h, Q => ∃ kvs v, h[a]? = some (.dic kvs) ∧ lookD (.str k) kvs = some v ∧ Q v h
  | _, _, _, _ => False
/-- a dict of pairs -/
def mergeP (kvs : List (PV × PV)) : List (PV × PV) → List (PV × PV)
  | [] => kvs
  | (k, v) :: r => mergeP (putD k v kvs) r
/-- a written dict -/
def mergeD (kvs : List (PV × PV)) : List Str → List PV → List (PV × PV)
  | k :: ks, v :: vs => mergeD (putD (.str k) v kvs) ks vs
  | _, _ => kvs
/-- o[i] = v -/
def putV (x y v : PV) (h : PH) (Q : PH → Prop) : Prop := match x with
  | .ref p => match h[p]? with
    | some (.lst xs) => ∃ k j, y = .int k ∧ ixN xs.length k = some j ∧ Q (h.set p (.lst (xs.set j v)))
    | some (.dic kvs) => isK y = true ∧ kvs.length < SZ ∧ Q (h.set p (.dic (putD y v kvs)))
    | _ => False
  | _ => False
def slcV : PV → Option Int → Option Int → PH → KQ → Prop
  | .tup xs, lo, hi, h, Q => Q (.tup (cut xs lo hi)) h
  | .str s, lo, hi, h, Q => s.length ≤ SZ ∧ Q (.str ⟨(cut s.cps.toList lo hi).toArray⟩) h
  | .ref a, lo, hi, h, Q => ∃ xs, lstOf h (.ref a) = some xs ∧ Q (.ref h.length) (h ++ [.lst (cut xs lo hi)])
  | _, _, _, _, _ => False

/-! ### built-in functions, methods -/
/-- the type of a value -/
def tyN (h : PH) : PV → Option String
  | .non => some "NoneType"
  | .bl _ => some "bool"
  | .int _ => some "int"
  | .str _ => some "str"
  | .tup _ => some "tuple"
  | .ref a => match h[a]? with
    | some (.lst _) => some "list"
    | some (.frl _) => some "list"
    | some (.dic _) => some "dict"
    | _ => none
def isB (T : String) (t : String) : Bool := t == T || (T == "int" && t == "bool")
def tyOf : BF → String
  | .isInt => "int"
  | .isBool => "bool"
  | .isStr => "str"
  | .isList => "list"
  | _ => "tuple"
def bfV : BF → List PV → PH → KQ → Prop
  | .len, [.str s], h, Q => s.length ≤ SZ ∧ Q (.int s.length) h
  | .len, [v], h, Q => ∃ xs, seqOf h v = some xs ∧ Q (.int xs.length) h
  | .list1, [v], h, Q => ∃ xs, seqOf h v = some xs ∧ Q (.ref h.length) (h ++ [.lst xs])
  | .tuple1, [.tup xs], h, Q => Q (.tup xs) h
  | .tuple1, [v], h, Q => ∃ xs, lstOf h v = some xs ∧ Q (.tup xs) h
  | .min2, [.int i, .int j], h, Q => Q (.int (if j < i then j else i)) h
  | .max2, [.int i, .int j], h, Q => Q (.int (if j > i then j else i)) h
  | .int1, [.int i], h, Q => Q (.int i) h
  | .int1, [.bl b], h, Q => Q (.int (if b then 1 else 0)) h
  | .str1, [.int i], h, Q => i.natAbs.log2 < 1920 ∧ Q (.str (toString i)) h
  | .str1, [.str a], h, Q => Q (.str a) h
  | .dict1, [v], h, Q => ∃ prs : List (PV × PV), lstOf h v = some (prs.map fun p => .tup [p.1, p.2]) ∧ (prs.all fun p => isK p.1) = true ∧ Q (.ref h.length) (h ++ [.dic (mergeP [] prs)])
  | .repr1, [.bl b], h, Q => Q (.str (Str.ofString (if b then "True" else "False"))) h
  | .repr1, [.str x], h, Q => (reprText x).length ≤ 16777216 ∧ Q (.str (reprText x)) h
  | .repr1, [.int i], h, Q => i.natAbs.log2 < 1920 ∧ Q (.str (Str.ofString (toString i))) h
  | .repr1, [.non], h, Q => Q (.str (Str.ofString "None")) h
  | .repr1, [v], h, Q => ∃ d, notRef v = false ∧ Dat h d v ∧ SeqAt.shaped d = true ∧ d.showable = true ∧ d.shown.length ≤ SZ ∧ Q (.str d.shown) h
  | .abs, [.int i], h, Q => Q (.int (if i < 0 then -i else i)) h
  | .sumL, [v], h, Q => ∃ ns : List Int, lstOf h v = some (ns.map PV.int) ∧ Q (.int ns.sum) h
  | .maxL, [v], h, Q => ∃ (ns : List Int) (m : Int), lstOf h v = some (ns.map PV.int) ∧ m ∈ ns ∧ (∀ y ∈ ns, y ≤ m) ∧ Q (.int m) h
  | .minL, [v], h, Q => ∃ (ns : List Int) (m : Int), lstOf h v = some (ns.map PV.int) ∧ m ∈ ns ∧ (∀ y ∈ ns, m ≤ y) ∧ Q (.int m) h
  | .all1, [v], h, Q => ∃ bs : List Bool, lstOf h v = some (bs.map PV.bl) ∧ Q (.bl (bs.all id)) h
  | _, _, _, _ => False
/-- the type of a method's receiver -/
def bmT : BM → String
  | .append => "list" | .extend => "list" | .pop0 => "list" | .pop1 => "list" | .insert => "list" | .reverse => "list" | .clear => "list" | .index => "list" | .get1 => "dict" | .get2 => "dict" | .update => "dict" | _ => "str"
def bmV : BM → PV → List PV → PH → KQ → Prop
  | .append, .ref a, [y], h, Q => ∃ xs, h[a]? = some (.lst xs) ∧ xs.length < SZ ∧ Q .non (h.set a (.lst (xs ++ [y])))
  | .extend, .ref a, [.ref b], h, Q => ∃ xs ys, h[a]? = some (.lst xs) ∧ h[b]? = some (.lst ys) ∧ xs.length + ys.length ≤ SZ ∧ Q .non (h.set a (.lst (xs ++ ys)))
  | .pop0, .ref a, [], h, Q => ∃ xs y, h[a]? = some (.lst xs) ∧ xs[xs.length - 1]? = some y ∧ Q y (h.set a (.lst xs.dropLast))
  | .reverse, .ref a, [], h, Q => ∃ xs, h[a]? = some (.lst xs) ∧ Q .non (h.set a (.lst xs.reverse))
  | .clear, .ref a, [], h, Q => ∃ xs, h[a]? = some (.lst xs) ∧ Q .non (h.set a (.lst []))
  | .pop1, .ref a, [.int i], h, Q => ∃ xs j y, h[a]? = some (.lst xs) ∧ (-(2 ^ 63) ≤ i ∧ i < 2 ^ 63) ∧ seqIndex? i xs.length = some j ∧ xs[j]? = some y ∧ Q y (h.set a (.lst (xs.eraseIdx j)))
  | .join, .str a, [v], h, Q => ∃ ys : List Str, seqOf h v = some (ys.map PV.str) ∧ (ys.map (·.length)).sum + ys.length * a.length ≤ 16777216 ∧ Q (.str (Txt.join a ys)) h
  | .split, .str a, [.str b], h, Q => (b.length == 0) = false ∧ a.length + 2 ≤ SZ ∧ Q (.ref h.length) (h ++ [.lst ((Txt.split a b).map PV.str)])
  | .startswith, .str a, [.str b], h, Q => Q (.bl (Txt.startswith a b)) h
  | .isalnum, .str a, [], h, Q => Q (.bl (Txt.isalnum a)) h
  | .upper, .str a, [], h, Q => a.length ≤ 5592405 ∧ Q (.str (Txt.upper a)) h
  | _, _, _, _, _ => False

/-! ### programs -/
structure FD where
  np : Nat
  ns : Nat
  body : B
  dfl : List PV := []
  kw : Option Nat := none
structure CD where
  init : Nat
  meths : List (Nat × Nat)
  fields : List Nat
  base : Bool
  bare : Bool
structure Sig where
  fn : Nat → Option FD
  cls : Nat → Option CD
  con : Nat → Option PV
def getM (m : Nat) : List (Nat × Nat) → Option Nat
  | [] => none
  | (g, x) :: r => if g = m then some x else getM m r
inductive FR where
  | fn (f : Nat) | mk (c : Nat)
abbrev CS := FR → List PV → PH → KQ → KX → Prop

def iterL (live : PH → Prop) (body : PV → Loc → PH → (Loc → PH → Prop) → Prop) (fin : Loc → PH → Prop) : List PV → Loc → PH → Prop
  | [], l, h => live h ∧ fin l h
  | x :: r, l, h => live h ∧ body x l h fun l' h' => iterL live body fin r l' h'
def compL (live : PH → Prop) (d : Nat) (body : PV → PH → (Option PV → PH → Prop) → Prop) (fin : PH → Prop) : List PV → PH → Prop
  | [], h => live h ∧ fin h
  | x :: r, h => live h ∧ body x h fun o h' => match o with
    | none => compL live d body fin r h'
    | some y => ∃ acc, h'[d]? = some (.lst acc) ∧ acc.length < SZ ∧ compL live d body fin r (h'.set d (.lst (acc ++ [y])))
def whlN (step : Loc → PH → (Loc → PH → Prop) → Prop) : Nat → Loc → PH → Prop
  | 0, _, _ => False
  | n + 1, l, h => step l h fun l' h' => whlN step n l' h'
abbrev KI := List PV → (PH → Prop) → PH → Prop
def liveL (v : PV) (xs : List PV) : PH → Prop := fun h => match v with
  | .ref _ => lstOf h v = some xs
  | _ => True
def itemsOf (h : PH) : PV → Option (List PV)
  | .str s => some (s.cps.toList.map fun c => .str ⟨#[c]⟩)
  | v => seqOf h v
def enumFrom (n : Nat) : List PV → List PV
  | [] => []
  | x :: r => .tup [.int n, x] :: enumFrom (n + 1) r
def zipT : List PV → List PV → List PV
  | x :: xs, y :: ys => .tup [x, y] :: zipT xs ys
  | _, _ => []
def rangeL (lo : Int) (n : Nat) : List PV := (List.range n).map fun k => .int (lo + (k : Nat))

def lenTs : Ts → Nat
  | .nil => 0
  | .cons _ ts => lenTs ts + 1
mutual
/-- the names of a target -/
def tNs : T → List Nat
  | .nm i => [i]
  | .tup ts => tsNs ts
  | _ => []
def tsNs : Ts → List Nat
  | .nil => []
  | .cons t ts => tNs t ++ tsNs ts
end
def wipeL (l : Loc) : List Nat → Loc
  | [] => l
  | v :: vs => (wipeL l vs).set v none
structure En where
  nx : Loc → PH → Prop
  rt : KQ
  ct : Loc → PH → Prop
  ex : XV → Loc → PH → Prop

mutual
def evE (G : Sig) (cs : CS) (X : KX) : E → Loc → PH → KQ → Prop
  | .var i, l, h, Q => ∃ v, l[i]? = some (some v) ∧ Q v h
  | .int i, _, h, Q => Q (.int i) h
  | .str s, _, h, Q => Q (.str s) h
  | .bl b, _, h, Q => Q (.bl b) h
  | .non, _, h, Q => Q .non h
  | .glob g, _, h, Q => ∃ v, G.con g = some v ∧ Q v h
  | .bin o a b, l, h, Q => evE G cs X a l h fun x h1 => evE G cs X b l h1 fun y h2 => binV o x y h2 Q
  | .neg a, l, h, Q => evE G cs X a l h fun x h1 => ∃ i, x = .int i ∧ Q (.int (-i)) h1
  | .nt a, l, h, Q => evE G cs X a l h fun x h1 => ∃ b, x = .bl b ∧ Q (.bl (!b)) h1
  | .and a b, l, h, Q => evE G cs X a l h fun x h1 => ∃ c, x = .bl c ∧ if c = true then evE G cs X b l h1 Q else Q (.bl false) h1
  | .or a b, l, h, Q => evE G cs X a l h fun x h1 => ∃ c, x = .bl c ∧ if c = true then Q (.bl true) h1 else evE G cs X b l h1 Q
  | .cmp o a b, l, h, Q => evE G cs X a l h fun x h1 => evE G cs X b l h1 fun y h2 => cmpV o x y h2 fun r h3 => Q (.bl r) h3
  | .chain o o' a b c, l, h, Q => evE G cs X a l h fun x h1 => evE G cs X b l h1 fun y h2 => cmpV o x y h2 fun r h3 =>
      if r = true then evE G cs X c l h3 fun z h4 => cmpV o' y z h4 fun r' h5 => Q (.bl r') h5 else Q (.bl false) h3
  | .ite c a b, l, h, Q => evT G cs X c l h fun r h1 => if r = true then evE G cs X a l h1 Q else evE G cs X b l h1 Q
  | .tup es, l, h, Q => evEs G cs X es l h fun xs h1 => xs.length ≤ SZ ∧ Q (.tup xs) h1
  | .lst es, l, h, Q => evEs G cs X es l h fun xs h1 => xs.length ≤ SZ ∧ Q (.ref h1.length) (h1 ++ [.lst xs])
  | .dic0, _, h, Q => Q (.ref h.length) (h ++ [.dic []])
  | .idx a b, l, h, Q => evE G cs X a l h fun x h1 => evE G cs X b l h1 fun y h2 => idxV x y h2 Q
  | .slc a lo hi, l, h, Q => evE G cs X a l h fun x h1 => evO G cs X lo l h1 fun u h2 => evO G cs X hi l h2 fun w h3 => slcV x u w h3 Q
  | .attr a f, l, h, Q => evE G cs X a l h fun x h1 => ∃ p c fs v cd, x = .ref p ∧ h1[p]? = some (.ins c fs) ∧ G.cls c = some cd ∧ cd.fields.contains f = true ∧ getN f fs = some v ∧ Q v h1
  | .call f args, l, h, Q => evEs G cs X args l h fun xs h1 => cs (.fn f) xs h1 Q X
  | .mk c args, l, h, Q => evEs G cs X args l h fun xs h1 => cs (.mk c) xs h1 Q X
  | .mkK c args e, l, h, Q => evEs G cs X args l h fun xs h1 => evE G cs X e l h1 fun z h2 => ∃ cd d, G.cls c = some cd ∧ G.fn cd.init = some d ∧ d.kw.isSome = true ∧ xs.length + 2 ≤ d.np ∧ d.np - 2 - xs.length ≤ d.dfl.length - 1 ∧
      cs (.mk c) (xs ++ d.dfl.dropLast.drop (d.dfl.length - 1 - (d.np - 2 - xs.length)) ++ [z]) h2 Q X
  | .dicl ks vs, l, h, Q => evEs G cs X vs l (h ++ [.dic []]) fun xs h2 => h2[h.length]? = some (.dic []) ∧ xs.length = ks.length ∧ ks.length ≤ 15 ∧ Q (.ref h.length) (h2.set h.length (.dic (mergeD [] ks xs)))
  | .slr a, l, h, Q => evE G cs X a l h fun x h1 => ∃ p xs, x = .ref p ∧ lstOf h1 (.ref p) = some xs ∧ Q (.ref h1.length) (h1 ++ [.lst xs.reverse])
  | .meth o m args, l, h, Q => evE G cs X o l h fun x h1 => ∃ p c fs cd f, x = .ref p ∧ h1[p]? = some (.ins c fs) ∧ G.cls c = some cd ∧ getM m cd.meths = some f ∧
      evEs G cs X args l h1 fun xs h2 => cs (.fn f) (x :: xs) h2 Q X
  | .ini c args, l, h, Q => ∃ cd, G.cls c = some cd ∧ evEs G cs X args l h fun xs h1 => cs (.fn cd.init) xs h1 Q X
  | .mk0 c, _, h, Q => ∃ cd, G.cls c = some cd ∧ cd.bare = true ∧ Q (.ref h.length) (h ++ [.ins c []])
  | .lrg1 a, l, h, Q => evE G cs X a l h fun x h1 => ∃ j, x = .int j ∧ (0 ≤ j ∧ j ≤ SZ) ∧ Q (.ref h1.length) (h1 ++ [.lst (rangeL 0 j.toNat)])
  | .isi f a, l, h, Q => evE G cs X a l h fun x h1 => ∃ t, tyN h1 x = some t ∧ Q (.bl (isB (tyOf f) t)) h1
  | .bf f args, l, h, Q => evEs G cs X args l h fun xs h1 => bfV f xs h1 Q
  | .bm m o args, l, h, Q => evE G cs X o l h fun x h1 => tyN h1 x = some (bmT m) ∧ evEs G cs X args l h1 fun xs h2 => bmV m x xs h2 Q
  | .lc elt t it cond, l, h, Q => evI G cs X it l h fun items live h1 =>
      compL live h1.length (fun x h2 k => evG G cs (fun _ _ => False) t x (wipeL l (tNs t)) h2 fun l' h3 => evC G cs (fun _ _ => False) cond l' h3 fun b h4 =>
        if b = true then evE G cs (fun _ _ => False) elt l' h4 fun y h5 => k (some y) h5 else k none h4) (fun h2 => Q (.ref h1.length) h2) items (h1 ++ [.lst []])
  | .dget o a b, l, h, Q => evE G cs X o l h fun x h1 => tyN h1 x = some "dict" ∧ evE G cs X a l h1 fun y h2 => evE G cs X b l h2 fun z h3 => ∃ p kvs, x = .ref p ∧ h3[p]? = some (.dic kvs) ∧ isK y = true ∧ Q ((lookD y kvs).getD z) h3
def evEs (G : Sig) (cs : CS) (X : KX) : Es → Loc → PH → (List PV → PH → Prop) → Prop
  | .nil, _, h, Q => Q [] h
  | .cons e es, l, h, Q => evE G cs X e l h fun x h1 => evEs G cs X es l h1 fun xs h2 => Q (x :: xs) h2
def evO (G : Sig) (cs : CS) (X : KX) : OE → Loc → PH → (Option Int → PH → Prop) → Prop
  | .no, _, h, Q => Q none h
  | .so e, l, h, Q => evE G cs X e l h fun x h1 => ∃ i, x = .int i ∧ Q (some i) h1
def evC (G : Sig) (cs : CS) (X : KX) : OC → Loc → PH → (Bool → PH → Prop) → Prop
  | .no, _, h, Q => Q true h
  | .so c, l, h, Q => evT G cs X c l h Q
/-- a test -/
def evT (G : Sig) (cs : CS) (X : KX) : C → Loc → PH → (Bool → PH → Prop) → Prop
  | .v e, l, h, Q => evE G cs X e l h fun x h1 => ∃ b, truV h1 x = some b ∧ Q b h1
  | .cmp o a b, l, h, Q => evE G cs X a l h fun x h1 => evE G cs X b l h1 fun y h2 => cmpV o x y h2 Q
  | .chain o o' a b c, l, h, Q => evE G cs X a l h fun x h1 => evE G cs X b l h1 fun y h2 => cmpV o x y h2 fun r h3 =>
      if r = true then evE G cs X c l h3 fun z h4 => cmpV o' y z h4 Q else Q false h3
  | .nt a, l, h, Q => evT G cs X a l h fun b h1 => Q (!b) h1
  | .and a b, l, h, Q => evT G cs X a l h fun c h1 => if c = true then evT G cs X b l h1 Q else Q false h1
  | .or a b, l, h, Q => evT G cs X a l h fun c h1 => if c = true then Q true h1 else evT G cs X b l h1 Q
def evI (G : Sig) (cs : CS) (X : KX) : I → Loc → PH → KI → Prop
  | .seq e, l, h, R => evE G cs X e l h fun x h1 => ∃ xs, itemsOf h1 x = some xs ∧ R xs (liveL x xs) h1
  | .rng1 a, l, h, R => evE G cs X a l h fun x h1 => ∃ j, x = .int j ∧ (-(2 ^ 62) ≤ j ∧ j < 2 ^ 62) ∧ R (rangeL 0 j.toNat) (fun _ => True) h1
  | .rng2 a b, l, h, R => evE G cs X a l h fun x h1 => evE G cs X b l h1 fun y h2 => ∃ i j, x = .int i ∧ y = .int j ∧ (-(2 ^ 62) ≤ i ∧ i < 2 ^ 62 ∧ -(2 ^ 62) ≤ j ∧ j < 2 ^ 62) ∧ R (rangeL i (j - i).toNat) (fun _ => True) h2
  | .enu e, l, h, R => evE G cs X e l h fun x h1 => ∃ xs, lstOf h1 x = some xs ∧ R (enumFrom 0 xs) (liveL x xs) h1
  | .zip2 a b, l, h, R => evE G cs X a l h fun x h1 => evE G cs X b l h1 fun y h2 => ∃ xs ys, seqOf h2 x = some xs ∧ lstOf h2 y = some ys ∧ R (zipT xs ys) (fun h => liveL x xs h ∧ liveL y ys h) h2
  | .rev e, l, h, R => evE G cs X e l h fun x h1 => ∃ xs, lstOf h1 x = some xs ∧ R xs.reverse (liveL x xs) h1
/-- a target takes a value -/
def evG (G : Sig) (cs : CS) (X : KX) : T → PV → Loc → PH → (Loc → PH → Prop) → Prop
  | .nm i, v, l, h, Q => i < l.length ∧ Q (l.set i (some v)) h
  | .tup ts, v, l, h, Q => ∃ xs, seqOf h v = some xs ∧ xs.length = lenTs ts ∧ evGs G cs X ts xs l h Q
  | .attr o f, v, l, h, Q => evE G cs X o l h fun x h1 => ∃ p c fs cd, x = .ref p ∧ h1[p]? = some (.ins c fs) ∧ G.cls c = some cd ∧ cd.fields.contains f = true ∧ fs.length < 900 ∧ Q l (h1.set p (.ins c (putN f v fs)))
  | .sub o i, v, l, h, Q => evE G cs X o l h fun x h1 => evE G cs X i l h1 fun y h2 => putV x y v h2 (Q l)
def evGs (G : Sig) (cs : CS) (X : KX) : Ts → List PV → Loc → PH → (Loc → PH → Prop) → Prop
  | .nil, vs, l, h, Q => vs = [] ∧ Q l h
  | .cons t ts, vs, l, h, Q => ∃ v r, vs = v :: r ∧ evG G cs X t v l h fun l' h' => evGs G cs X ts r l' h' Q
end
def augV : BO → PV → PV → PH → KQ → Prop
  | .add, .int i, .int j, h, Q => Q (.int (i + j)) h
  | .add, .str i, .str j, h, Q => i.length + j.length ≤ SZ ∧ Q (.str (i ++ j)) h
  | .sub, .int i, .int j, h, Q => Q (.int (i - j)) h
  | _, _, _, _, _ => False
mutual
def evS (G : Sig) (cs : CS) : S → Loc → PH → En → Prop
  | .asg t e, l, h, D => evE G cs (fun x h' => D.ex x l h') e l h fun v h1 => evG G cs (fun x h' => D.ex x l h') t v l h1 D.nx
  | .aug i o e, l, h, D => ∃ x, l[i]? = some (some x) ∧ evE G cs (fun x h' => D.ex x l h') e l h fun y h1 => augV o x y h1 fun z h2 => D.nx (l.set i (some z)) h2
  | .augF ob f o e, l, h, D => evE G cs (fun x h' => D.ex x l h') ob l h fun x h1 => ∃ p c fs v cd, x = .ref p ∧ h1[p]? = some (.ins c fs) ∧ G.cls c = some cd ∧ cd.fields.contains f = true ∧ getN f fs = some v ∧
      evE G cs (fun x h' => D.ex x l h') e l h1 fun y h2 => augV o v y h2 fun z h3 => ∃ fs', h3[p]? = some (.ins c fs') ∧ fs'.length < 900 ∧ D.nx l (h3.set p (.ins c (putN f z fs')))
  | .augS ob ix o e, l, h, D => evE G cs (fun x h' => D.ex x l h') ob l h fun x h1 => evE G cs (fun x h' => D.ex x l h') ix l h1 fun y h2 => ∃ p k xs v, x = .ref p ∧ y = .int k ∧ h2[p]? = some (.lst xs) ∧ atI xs k = some v ∧
      evE G cs (fun x h' => D.ex x l h') e l h2 fun u h3 => augV o v u h3 fun z h4 => ∃ ys j, h4[p]? = some (.lst ys) ∧ ixN ys.length k = some j ∧ D.nx l (h4.set p (.lst (ys.set j z)))
  | .exp e, l, h, D => evE G cs (fun x h' => D.ex x l h') e l h fun _ h1 => D.nx l h1
  | .ret e, l, h, D => evE G cs (fun x h' => D.ex x l h') e l h D.rt
  | .retN, _, h, D => D.rt .non h
  | .ife c a b, l, h, D => evT G cs (fun x h' => D.ex x l h') c l h fun r h1 => if r = true then evB G cs a l h1 D else evB G cs b l h1 D
  | .for t it b, l, h, D => evI G cs (fun x h' => D.ex x l h') it l h fun items live h1 =>
      iterL live (fun v l' h' k => evG G cs (fun x h' => D.ex x l' h') t v l' h' fun l2 h2 => evB G cs b l2 h2 { D with nx := k, ct := k }) D.nx items l h1
  | .whl c b, l, h, D => ∃ n, whlN (fun l' h' k => evT G cs (fun x h' => D.ex x l' h') c l' h' fun r h1 => if r = true then evB G cs b l' h1 { D with nx := k, ct := k } else D.nx l' h1) n l h
  | .pas, l, h, D => D.nx l h
  | .cont, l, h, D => D.ct l h
  | .rais _ _, _, _, _ => False
  | .rai0, _, _, _ => False
def evB (G : Sig) (cs : CS) : B → Loc → PH → En → Prop
  | .nil, l, h, D => D.nx l h
  | .cons s b, l, h, D => evS G cs s l h { D with nx := fun l' h' => evB G cs b l' h' D }
end
def fill (dfl args : List PV) (n : Nat) : List PV := args ++ dfl.drop (dfl.length - (n - args.length))
def startL (d : FD) (vs : List PV) : Loc := vs.map some ++ List.replicate (d.ns - vs.length) none
/-- the calls, to a depth -/
def callS (G : Sig) : Nat → CS
  | 0, _, _, _, _, _ => False
  | k + 1, .fn f, args, h, Q, X => ∃ d, G.fn f = some d ∧ (fill d.dfl args d.np).length = d.np ∧ args.length ≤ d.np ∧
      evB G (callS G k) d.body (startL d (fill d.dfl args d.np)) h ⟨fun _ h' => Q .non h', Q, fun _ _ => False, fun x _ h' => X x h'⟩
  | k + 1, .mk c, args, h, Q, X => ∃ cd, G.cls c = some cd ∧ callS G k (.fn cd.init) (.ref h.length :: args) (h ++ [.ins c []]) (fun v h' => v = .non ∧ Q (.ref h.length) h') X

/-! ### monotonicity -/
def CSm (cs : CS) : Prop := ∀ f xs h (Q Q' : KQ) (X X' : KX), (∀ v h, Q v h → Q' v h) → (∀ v h, X v h → X' v h) → cs f xs h Q X → cs f xs h Q' X'
theorem binV_mono : ∀ {o : BO} {x y : PV} {h : PH} {Q Q' : KQ}, (∀ v h, Q v h → Q' v h) → binV o x y h Q → binV o x y h Q' := by
  intro o x y h Q Q' k q
  unfold binV at q ⊢
  split at q
  · exact k _ _ q
  · exact ⟨q.1, k _ _ q.2⟩
  · exact ⟨q.1, k _ _ q.2⟩
  · obtain ⟨xs, ys, a, b, c, q⟩ := q; exact ⟨xs, ys, a, b, c, k _ _ q⟩
  · exact k _ _ q
  · exact ⟨q.1, k _ _ q.2⟩
  · exact ⟨q.1, k _ _ q.2⟩
  · exact ⟨q.1, k _ _ q.2⟩
  · obtain ⟨xs, a, b, c, d, q⟩ := q; exact ⟨xs, a, b, c, d, k _ _ q⟩
  · exact ⟨q.1, q.2.1, k _ _ q.2.2⟩
  · exact ⟨q.1, k _ _ q.2⟩
  · exact ⟨q.1, k _ _ q.2⟩
  · exact q.elim
theorem augV_mono : ∀ {o : BO} {x y : PV} {h : PH} {Q Q' : KQ}, (∀ v h, Q v h → Q' v h) → augV o x y h Q → augV o x y h Q' := by
  intro o x y h Q Q' k q
  unfold augV at q ⊢
  split at q
  · exact k _ _ q
  · exact ⟨q.1, k _ _ q.2⟩
  · exact k _ _ q
  · exact q.elim
theorem cmpV_mono : ∀ {o : CO} {x y : PV} {h : PH} {Q Q' : Bool → PH → Prop}, (∀ v h, Q v h → Q' v h) → cmpV o x y h Q → cmpV o x y h Q' := by
  intro o x y h Q Q' k q
  unfold cmpV at q ⊢
  split at q
  all_goals first | exact k _ _ q | exact q.elim | (rcases q with ⟨d, e, a, b, c, c', q⟩ | ⟨d, e, u, w, a, b, c, c', c2, q⟩ <;> first | exact .inl ⟨d, e, a, b, c, c', k _ _ q⟩ | exact .inr ⟨d, e, u, w, a, b, c, c', c2, k _ _ q⟩) | (obtain ⟨d, e, a, b, c, c', q⟩ := q; exact ⟨d, e, a, b, c, c', k _ _ q⟩) | (obtain ⟨c, e, q⟩ := q; exact ⟨c, e, k _ _ q⟩) | (obtain ⟨xs, a, b, c, q⟩ := q; exact ⟨xs, a, b, c, k _ _ q⟩) | exact ⟨q.1, k _ _ q.2⟩
theorem idxV_mono : ∀ {x y : PV} {h : PH} {Q Q' : KQ}, (∀ v h, Q v h → Q' v h) → idxV x y h Q → idxV x y h Q' := by
  intro x y h Q Q' k q
  unfold idxV at q ⊢
  split at q
  · obtain ⟨v, a, q⟩ := q; exact ⟨v, a, k _ _ q⟩
  · obtain ⟨z, c, a, q⟩ := q; exact ⟨z, c, a, k _ _ q⟩
  · obtain ⟨xs, v, a, b, q⟩ := q; exact ⟨xs, v, a, b, k _ _ q⟩
  · obtain ⟨xs, v, a, b, q⟩ := q; exact ⟨xs, v, a, b, k _ _ q⟩
  · exact q.elim
theorem putV_mono : ∀ {x y v : PV} {h : PH} {Q Q' : PH → Prop}, (∀ h, Q h → Q' h) → putV x y v h Q → putV x y v h Q' := by
  intro x y v h Q Q' k q
  unfold putV at q ⊢
  split at q
  · split at q
    · obtain ⟨a, b, c, d, q⟩ := q; exact ⟨a, b, c, d, k _ q⟩
    · exact ⟨q.1, q.2.1, k _ q.2.2⟩
    · exact q.elim
  · exact q.elim
theorem slcV_mono : ∀ {x : PV} {u w : Option Int} {h : PH} {Q Q' : KQ}, (∀ v h, Q v h → Q' v h) → slcV x u w h Q → slcV x u w h Q' := by
  intro x u w h Q Q' k q
  unfold slcV at q ⊢
  split at q
  · exact k _ _ q
  · exact ⟨q.1, k _ _ q.2⟩
  · obtain ⟨xs, a, q⟩ := q; exact ⟨xs, a, k _ _ q⟩
  · exact q.elim
theorem bfV_mono : ∀ {f : BF} {xs : List PV} {h : PH} {Q Q' : KQ}, (∀ v h, Q v h → Q' v h) → bfV f xs h Q → bfV f xs h Q' := by
  intro f xs h Q Q' k q
  unfold bfV at q ⊢
  split at q
  all_goals first | exact k _ _ q | (obtain ⟨z, a, b, q⟩ := q; exact ⟨z, a, b, k _ _ q⟩) | exact q.elim | exact ⟨q.1, k _ _ q.2⟩ | (obtain ⟨z, a, q⟩ := q; exact ⟨z, a, k _ _ q⟩) | (obtain ⟨d, a1, a2, a3, a4, a5, q⟩ := q; exact ⟨d, a1, a2, a3, a4, a5, k _ _ q⟩) | (obtain ⟨d, m, a1, a2, a3, q⟩ := q; exact ⟨d, m, a1, a2, a3, k _ _ q⟩)
theorem bmV_mono : ∀ {f : BM} {x : PV} {xs : List PV} {h : PH} {Q Q' : KQ}, (∀ v h, Q v h → Q' v h) → bmV f x xs h Q → bmV f x xs h Q' := by
  intro f x xs h Q Q' k q
  unfold bmV at q ⊢
  split at q
  all_goals first | exact q.elim | exact k _ _ q | exact ⟨q.1, k _ _ q.2⟩ | exact ⟨q.1, q.2.1, k _ _ q.2.2⟩ | (obtain ⟨z, a, q⟩ := q; exact ⟨z, a, k _ _ q⟩) | (obtain ⟨z, j, y, a1, a2, a3, a4, q⟩ := q; exact ⟨z, j, y, a1, a2, a3, a4, k _ _ q⟩) | (obtain ⟨z, a, b, q⟩ := q; exact ⟨z, a, b, k _ _ q⟩) | (obtain ⟨z, y, a, b, c, q⟩ := q; exact ⟨z, y, a, b, c, k _ _ q⟩) | (obtain ⟨z, y, a, b, q⟩ := q; exact ⟨z, y, a, b, k _ _ q⟩)
theorem iterL_mono {live : PH → Prop} {body body' : PV → Loc → PH → (Loc → PH → Prop) → Prop} {fin fin' : Loc → PH → Prop}
    (hb : ∀ x l h (Q Q' : Loc → PH → Prop), (∀ l h, Q l h → Q' l h) → body x l h Q → body' x l h Q') (hf : ∀ l h, fin l h → fin' l h) :
    ∀ (xs : List PV) (l : Loc) (h : PH), iterL live body fin xs l h → iterL live body' fin' xs l h
  | [], l, h, q => ⟨q.1, hf _ _ q.2⟩
  | x :: r, l, h, q => ⟨q.1, hb _ _ _ _ _ (fun l' h' q' => iterL_mono hb hf r l' h' q') q.2⟩
theorem compL_mono {live : PH → Prop} {d : Nat} {body body' : PV → PH → (Option PV → PH → Prop) → Prop} {fin fin' : PH → Prop}
    (hb : ∀ x h (Q Q' : Option PV → PH → Prop), (∀ l h, Q l h → Q' l h) → body x h Q → body' x h Q') (hf : ∀ h, fin h → fin' h) :
    ∀ (xs : List PV) (h : PH), compL live d body fin xs h → compL live d body' fin' xs h
  | [], h, q => ⟨q.1, hf _ q.2⟩
  | x :: r, h, q => ⟨q.1, hb _ _ _ _ (fun o h' q' => by
      cases o with
      | none => exact compL_mono hb hf r h' q'
      | some y =>
        obtain ⟨acc, a, b, q'⟩ := q'
        exact ⟨acc, a, b, compL_mono hb hf r _ q'⟩) q.2⟩
theorem whlN_mono {step step' : Loc → PH → (Loc → PH → Prop) → Prop} (hb : ∀ l h (Q Q' : Loc → PH → Prop), (∀ l h, Q l h → Q' l h) → step l h Q → step' l h Q') :
    ∀ (n : Nat) (l : Loc) (h : PH), whlN step n l h → whlN step' n l h
  | 0, _, _, q => q
  | n + 1, l, h, q => hb _ _ _ _ (fun l' h' q' => whlN_mono hb n l' h' q') q
section
variable {G : Sig} {cs cs' : CS}
/-- one call's reading below another -/
def CSle (cs cs' : CS) : Prop := ∀ f xs h (Q Q' : KQ) (X X' : KX), (∀ v h, Q v h → Q' v h) → (∀ v h, X v h → X' v h) → cs f xs h Q X → cs' f xs h Q' X'
mutual
theorem evE_mono (hc : CSle cs cs') {X X' : KX} (hX : ∀ v h, X v h → X' v h) : ∀ (e : E) (l : Loc) (h : PH) (Q Q' : KQ), (∀ v h, Q v h → Q' v h) → evE G cs X e l h Q → evE G cs' X' e l h Q'
  | .var i, l, h, Q, Q', k, q => by obtain ⟨v, a, q⟩ := q; exact ⟨v, a, k _ _ q⟩
  | .int i, _, h, Q, Q', k, q => k _ _ q
  | .str s, _, h, Q, Q', k, q => k _ _ q
  | .bl b, _, h, Q, Q', k, q => k _ _ q
  | .non, _, h, Q, Q', k, q => k _ _ q
  | .glob g, _, h, Q, Q', k, q => by obtain ⟨v, a, q⟩ := q; exact ⟨v, a, k _ _ q⟩
  | .bin o a b, l, h, Q, Q', k, q => evE_mono hc hX a _ _ _ _ (fun _ _ q => evE_mono hc hX b _ _ _ _ (fun _ _ q => binV_mono k q) q) q
  | .neg a, l, h, Q, Q', k, q => evE_mono hc hX a _ _ _ _ (fun _ _ q => by obtain ⟨i, e, q⟩ := q; exact ⟨i, e, k _ _ q⟩) q
  | .nt a, l, h, Q, Q', k, q => evE_mono hc hX a _ _ _ _ (fun _ _ q => by obtain ⟨i, e, q⟩ := q; exact ⟨i, e, k _ _ q⟩) q
  | .and a b, l, h, Q, Q', k, q => evE_mono hc hX a _ _ _ _ (fun _ _ q => by
      obtain ⟨i, e, q⟩ := q
      refine ⟨i, e, ?_⟩
      cases i with
      | true => exact evE_mono hc hX b _ _ _ _ k q
      | false => exact k _ _ q) q
  | .or a b, l, h, Q, Q', k, q => evE_mono hc hX a _ _ _ _ (fun _ _ q => by
      obtain ⟨i, e, q⟩ := q
      refine ⟨i, e, ?_⟩
      cases i with
      | false => exact evE_mono hc hX b _ _ _ _ k q
      | true => exact k _ _ q) q
  | .cmp o a b, l, h, Q, Q', k, q => evE_mono hc hX a _ _ _ _ (fun _ _ q => evE_mono hc hX b _ _ _ _ (fun _ _ q => cmpV_mono (fun _ _ q => k _ _ q) q) q) q
  | .chain o o' a b c, l, h, Q, Q', k, q => evE_mono hc hX a _ _ _ _ (fun _ _ q => evE_mono hc hX b _ _ _ _ (fun _ _ q => cmpV_mono (fun r _ q => by
      cases r with
      | true => exact evE_mono hc hX c _ _ _ _ (fun _ _ q => cmpV_mono (fun _ _ q => k _ _ q) q) q
      | false => exact k _ _ q) q) q) q
  | .ite c a b, l, h, Q, Q', k, q => evT_mono hc hX c _ _ _ _ (fun r _ q => by
      cases r with
      | true => exact evE_mono hc hX a _ _ _ _ k q
      | false => exact evE_mono hc hX b _ _ _ _ k q) q
  | .tup es, l, h, Q, Q', k, q => evEs_mono hc hX es _ _ _ _ (fun _ _ q => ⟨q.1, k _ _ q.2⟩) q
  | .lst es, l, h, Q, Q', k, q => evEs_mono hc hX es _ _ _ _ (fun _ _ q => ⟨q.1, k _ _ q.2⟩) q
  | .dic0, _, h, Q, Q', k, q => k _ _ q
  | .idx a b, l, h, Q, Q', k, q => evE_mono hc hX a _ _ _ _ (fun _ _ q => evE_mono hc hX b _ _ _ _ (fun _ _ q => idxV_mono k q) q) q
  | .slc a lo hi, l, h, Q, Q', k, q => evE_mono hc hX a _ _ _ _ (fun _ _ q => evO_mono hc hX lo _ _ _ _ (fun _ _ q => evO_mono hc hX hi _ _ _ _ (fun _ _ q => slcV_mono k q) q) q) q
  | .attr a f, l, h, Q, Q', k, q => evE_mono hc hX a _ _ _ _ (fun _ _ q => by obtain ⟨p, c, fs, v, cd, a, b, c', d, e, q⟩ := q; exact ⟨p, c, fs, v, cd, a, b, c', d, e, k _ _ q⟩) q
  | .call f args, l, h, Q, Q', k, q => evEs_mono hc hX args _ _ _ _ (fun _ _ q => hc _ _ _ _ _ _ _ k hX q) q
  | .mk c args, l, h, Q, Q', k, q => evEs_mono hc hX args _ _ _ _ (fun _ _ q => hc _ _ _ _ _ _ _ k hX q) q
  | .mkK c args e, l, h, Q, Q', k, q => evEs_mono hc hX args _ _ _ _ (fun _ _ q => evE_mono hc hX e _ _ _ _ (fun _ _ q => by
      obtain ⟨cd, d, a1, a2, a3, a4, a5, q⟩ := q
      exact ⟨cd, d, a1, a2, a3, a4, a5, hc _ _ _ _ _ _ _ k hX q⟩) q) q
  | .dicl ks vs, l, h, Q, Q', k, q => evEs_mono hc hX vs _ _ _ _ (fun _ _ q => ⟨q.1, q.2.1, q.2.2.1, k _ _ q.2.2.2⟩) q
  | .slr a, l, h, Q, Q', k, q => evE_mono hc hX a _ _ _ _ (fun _ _ q => by obtain ⟨p, xs, a, b, q⟩ := q; exact ⟨p, xs, a, b, k _ _ q⟩) q
  | .meth o m args, l, h, Q, Q', k, q => evE_mono hc hX o _ _ _ _ (fun _ _ q => by
      obtain ⟨p, c, fs, cd, f, a, b, c', d, q⟩ := q
      exact ⟨p, c, fs, cd, f, a, b, c', d, evEs_mono hc hX args _ _ _ _ (fun _ _ q => hc _ _ _ _ _ _ _ k hX q) q⟩) q
  | .ini c args, l, h, Q, Q', k, q => by
      obtain ⟨cd, a, q⟩ := q
      exact ⟨cd, a, evEs_mono hc hX args _ _ _ _ (fun _ _ q => hc _ _ _ _ _ _ _ k hX q) q⟩
  | .mk0 c, l, h, Q, Q', k, q => by
      obtain ⟨cd, a, b, q⟩ := q
      exact ⟨cd, a, b, k _ _ q⟩
  | .lrg1 a, l, h, Q, Q', k, q => evE_mono hc hX a _ _ _ _ (fun _ _ q => by obtain ⟨i, e, f, q⟩ := q; exact ⟨i, e, f, k _ _ q⟩) q
  | .isi f a, l, h, Q, Q', k, q => evE_mono hc hX a _ _ _ _ (fun _ _ q => by obtain ⟨i, e, q⟩ := q; exact ⟨i, e, k _ _ q⟩) q
  | .bf f args, l, h, Q, Q', k, q => evEs_mono hc hX args _ _ _ _ (fun _ _ q => bfV_mono k q) q
  | .bm m o args, l, h, Q, Q', k, q => evE_mono hc hX o _ _ _ _ (fun _ _ q => ⟨q.1, evEs_mono hc hX args _ _ _ _ (fun _ _ q => bmV_mono k q) q.2⟩) q
  | .lc elt t it cond, l, h, Q, Q', k, q => evI_mono hc hX it _ _ _ _ (fun items live h1 q => compL_mono (fun x h2 R R' kR q => evG_mono hc (fun _ _ z => z) t _ _ _ _ _ (fun l' h3 q => evC_mono hc (fun _ _ z => z) cond _ _ _ _ (fun b h4 q => by
      cases b with
      | true => exact evE_mono hc (fun _ _ z => z) elt _ _ _ _ (fun y h5 q => kR _ _ q) q
      | false => exact kR _ _ q) q) q) (fun h2 q => k _ _ q) _ _ q) q
  | .dget o a b, l, h, Q, Q', k, q => evE_mono hc hX o _ _ _ _ (fun _ _ q => ⟨q.1, evE_mono hc hX a _ _ _ _ (fun _ _ q => evE_mono hc hX b _ _ _ _ (fun _ _ q => by obtain ⟨p, kvs, a1, a2, a3, q⟩ := q; exact ⟨p, kvs, a1, a2, a3, k _ _ q⟩) q) q.2⟩) q
theorem evEs_mono (hc : CSle cs cs') {X X' : KX} (hX : ∀ v h, X v h → X' v h) : ∀ (e : Es) (l : Loc) (h : PH) (Q Q' : List PV → PH → Prop), (∀ v h, Q v h → Q' v h) → evEs G cs X e l h Q → evEs G cs' X' e l h Q'
  | .nil, _, h, Q, Q', k, q => k _ _ q
  | .cons e es, l, h, Q, Q', k, q => evE_mono hc hX e _ _ _ _ (fun _ _ q => evEs_mono hc hX es _ _ _ _ (fun _ _ q => k _ _ q) q) q
theorem evO_mono (hc : CSle cs cs') {X X' : KX} (hX : ∀ v h, X v h → X' v h) : ∀ (e : OE) (l : Loc) (h : PH) (Q Q' : Option Int → PH → Prop), (∀ v h, Q v h → Q' v h) → evO G cs X e l h Q → evO G cs' X' e l h Q'
  | .no, _, h, Q, Q', k, q => k _ _ q
  | .so e, l, h, Q, Q', k, q => evE_mono hc hX e _ _ _ _ (fun _ _ q => by obtain ⟨i, e, q⟩ := q; exact ⟨i, e, k _ _ q⟩) q
theorem evC_mono (hc : CSle cs cs') {X X' : KX} (hX : ∀ v h, X v h → X' v h) : ∀ (e : OC) (l : Loc) (h : PH) (Q Q' : Bool → PH → Prop), (∀ v h, Q v h → Q' v h) → evC G cs X e l h Q → evC G cs' X' e l h Q'
  | .no, _, h, Q, Q', k, q => k _ _ q
  | .so e, l, h, Q, Q', k, q => evT_mono hc hX e _ _ _ _ k q
theorem evT_mono (hc : CSle cs cs') {X X' : KX} (hX : ∀ v h, X v h → X' v h) : ∀ (e : C) (l : Loc) (h : PH) (Q Q' : Bool → PH → Prop), (∀ v h, Q v h → Q' v h) → evT G cs X e l h Q → evT G cs' X' e l h Q'
  | .v e, l, h, Q, Q', k, q => evE_mono hc hX e _ _ _ _ (fun _ _ q => by obtain ⟨i, e, q⟩ := q; exact ⟨i, e, k _ _ q⟩) q
  | .cmp o a b, l, h, Q, Q', k, q => evE_mono hc hX a _ _ _ _ (fun _ _ q => evE_mono hc hX b _ _ _ _ (fun _ _ q => cmpV_mono k q) q) q
  | .chain o o' a b c, l, h, Q, Q', k, q => evE_mono hc hX a _ _ _ _ (fun _ _ q => evE_mono hc hX b _ _ _ _ (fun _ _ q => cmpV_mono (fun r _ q => by
      cases r with
      | true => exact evE_mono hc hX c _ _ _ _ (fun _ _ q => cmpV_mono k q) q
      | false => exact k _ _ q) q) q) q
  | .nt a, l, h, Q, Q', k, q => evT_mono hc hX a _ _ _ _ (fun _ _ q => k _ _ q) q
  | .and a b, l, h, Q, Q', k, q => evT_mono hc hX a _ _ _ _ (fun c _ q => by
      cases c with
      | true => exact evT_mono hc hX b _ _ _ _ k q
      | false => exact k _ _ q) q
  | .or a b, l, h, Q, Q', k, q => evT_mono hc hX a _ _ _ _ (fun c _ q => by
      cases c with
      | false => exact evT_mono hc hX b _ _ _ _ k q
      | true => exact k _ _ q) q
theorem evI_mono (hc : CSle cs cs') {X X' : KX} (hX : ∀ v h, X v h → X' v h) : ∀ (e : I) (l : Loc) (h : PH) (Q Q' : KI), (∀ a b c, Q a b c → Q' a b c) → evI G cs X e l h Q → evI G cs' X' e l h Q'
  | .seq e, l, h, Q, Q', k, q => evE_mono hc hX e _ _ _ _ (fun _ _ q => by obtain ⟨i, e, q⟩ := q; exact ⟨i, e, k _ _ _ q⟩) q
  | .rng1 e, l, h, Q, Q', k, q => evE_mono hc hX e _ _ _ _ (fun _ _ q => by obtain ⟨i, e, f, q⟩ := q; exact ⟨i, e, f, k _ _ _ q⟩) q
  | .rng2 a b, l, h, Q, Q', k, q => evE_mono hc hX a _ _ _ _ (fun _ _ q => evE_mono hc hX b _ _ _ _ (fun _ _ q => by obtain ⟨i, j, e, f, g, q⟩ := q; exact ⟨i, j, e, f, g, k _ _ _ q⟩) q) q
  | .enu e, l, h, Q, Q', k, q => evE_mono hc hX e _ _ _ _ (fun _ _ q => by obtain ⟨i, e, q⟩ := q; exact ⟨i, e, k _ _ _ q⟩) q
  | .zip2 a b, l, h, Q, Q', k, q => evE_mono hc hX a _ _ _ _ (fun _ _ q => evE_mono hc hX b _ _ _ _ (fun _ _ q => by obtain ⟨i, j, e, f, q⟩ := q; exact ⟨i, j, e, f, k _ _ _ q⟩) q) q
  | .rev e, l, h, Q, Q', k, q => evE_mono hc hX e _ _ _ _ (fun _ _ q => by obtain ⟨i, e, q⟩ := q; exact ⟨i, e, k _ _ _ q⟩) q
theorem evG_mono (hc : CSle cs cs') {X X' : KX} (hX : ∀ v h, X v h → X' v h) : ∀ (t : T) (v : PV) (l : Loc) (h : PH) (Q Q' : Loc → PH → Prop), (∀ a b, Q a b → Q' a b) → evG G cs X t v l h Q → evG G cs' X' t v l h Q'
  | .nm i, v, l, h, Q, Q', k, q => ⟨q.1, k _ _ q.2⟩
  | .tup ts, v, l, h, Q, Q', k, q => by obtain ⟨xs, e, e2, q⟩ := q; exact ⟨xs, e, e2, evGs_mono hc hX ts _ _ _ _ _ k q⟩
  | .attr o f, v, l, h, Q, Q', k, q => evE_mono hc hX o _ _ _ _ (fun _ _ q => by obtain ⟨p, c, fs, cd, a, b, c', d, d', q⟩ := q; exact ⟨p, c, fs, cd, a, b, c', d, d', k _ _ q⟩) q
  | .sub o i, v, l, h, Q, Q', k, q => evE_mono hc hX o _ _ _ _ (fun _ _ q => evE_mono hc hX i _ _ _ _ (fun _ _ q => putV_mono (fun _ q => k _ _ q) q) q) q
theorem evGs_mono (hc : CSle cs cs') {X X' : KX} (hX : ∀ v h, X v h → X' v h) : ∀ (t : Ts) (v : List PV) (l : Loc) (h : PH) (Q Q' : Loc → PH → Prop), (∀ a b, Q a b → Q' a b) → evGs G cs X t v l h Q → evGs G cs' X' t v l h Q'
  | .nil, v, l, h, Q, Q', k, q => ⟨q.1, k _ _ q.2⟩
  | .cons t ts, v, l, h, Q, Q', k, q => by
      obtain ⟨y, r, e, q⟩ := q
      exact ⟨y, r, e, evG_mono hc hX t _ _ _ _ _ (fun _ _ q => evGs_mono hc hX ts _ _ _ _ _ k q) q⟩
end
/-- an end below another -/
structure Enle (D D' : En) : Prop where
  nx : ∀ l h, D.nx l h → D'.nx l h
  rt : ∀ l h, D.rt l h → D'.rt l h
  ct : ∀ l h, D.ct l h → D'.ct l h
  ex : ∀ x l h, D.ex x l h → D'.ex x l h
mutual
theorem evS_mono (hc : CSle cs cs') : ∀ (s : S) (l : Loc) (h : PH) (D D' : En), Enle D D' → evS G cs s l h D → evS G cs' s l h D'
  | .asg t e, l, h, D, D', k, q => evE_mono hc (fun _ _ z => k.ex _ _ _ z) e _ _ _ _ (fun _ _ q => evG_mono hc (fun _ _ z => k.ex _ _ _ z) t _ _ _ _ _ k.nx q) q
  | .aug i o e, l, h, D, D', k, q => by
      obtain ⟨x, a, q⟩ := q
      exact ⟨x, a, evE_mono hc (fun _ _ z => k.ex _ _ _ z) e _ _ _ _ (fun _ _ q => augV_mono (fun _ _ q => k.nx _ _ q) q) q⟩
  | .augF ob f o e, l, h, D, D', k, q => evE_mono hc (fun _ _ z => k.ex _ _ _ z) ob _ _ _ _ (fun _ _ q => by
      obtain ⟨p, c, fs, v, cd, a1, a2, a3, a4, a5, q⟩ := q
      exact ⟨p, c, fs, v, cd, a1, a2, a3, a4, a5, evE_mono hc (fun _ _ z => k.ex _ _ _ z) e _ _ _ _ (fun _ _ q => augV_mono (fun _ _ q => by obtain ⟨fs', b1, b2, q⟩ := q; exact ⟨fs', b1, b2, k.nx _ _ q⟩) q) q⟩) q
  | .augS ob ix o e, l, h, D, D', k, q => evE_mono hc (fun _ _ z => k.ex _ _ _ z) ob _ _ _ _ (fun _ _ q => evE_mono hc (fun _ _ z => k.ex _ _ _ z) ix _ _ _ _ (fun _ _ q => by
      obtain ⟨p, c, fs, v, a1, a2, a3, a4, q⟩ := q
      exact ⟨p, c, fs, v, a1, a2, a3, a4, evE_mono hc (fun _ _ z => k.ex _ _ _ z) e _ _ _ _ (fun _ _ q => augV_mono (fun _ _ q => by obtain ⟨ys, j, b1, b2, q⟩ := q; exact ⟨ys, j, b1, b2, k.nx _ _ q⟩) q) q⟩) q) q
  | .exp e, l, h, D, D', k, q => evE_mono hc (fun _ _ z => k.ex _ _ _ z) e _ _ _ _ (fun _ _ q => k.nx _ _ q) q
  | .ret e, l, h, D, D', k, q => evE_mono hc (fun _ _ z => k.ex _ _ _ z) e _ _ _ _ k.rt q
  | .retN, l, h, D, D', k, q => k.rt _ _ q
  | .ife c a b, l, h, D, D', k, q => evT_mono hc (fun _ _ z => k.ex _ _ _ z) c _ _ _ _ (fun r _ q => by
      cases r with
      | true => exact evB_mono hc a _ _ _ _ k q
      | false => exact evB_mono hc b _ _ _ _ k q) q
  | .for t it b, l, h, D, D', k, q => evI_mono hc (fun _ _ z => k.ex _ _ _ z) it _ _ _ _ (fun items live h1 q => iterL_mono (fun x l' h' R R' kR q =>
      evG_mono hc (fun _ _ z => k.ex _ _ _ z) t _ _ _ _ _ (fun l2 h2 q => evB_mono hc b _ _ { D with nx := R, ct := R } { D' with nx := R', ct := R' } ⟨kR, k.rt, kR, k.ex⟩ q) q) k.nx _ _ _ q) q
  | .whl c b, l, h, D, D', k, q => by
      obtain ⟨n, q⟩ := q
      exact ⟨n, whlN_mono (fun l' h' R R' kR q => evT_mono hc (fun _ _ z => k.ex _ _ _ z) c _ _ _ _ (fun r _ q => by
        cases r with
        | true => exact evB_mono hc b _ _ { D with nx := R, ct := R } { D' with nx := R', ct := R' } ⟨kR, k.rt, kR, k.ex⟩ q
        | false => exact k.nx _ _ q) q) n _ _ q⟩
  | .pas, l, h, D, D', k, q => k.nx _ _ q
  | .cont, l, h, D, D', k, q => k.ct _ _ q
  | .rais c a, l, h, D, D', k, q => q
  | .rai0, l, h, D, D', k, q => q
theorem evB_mono (hc : CSle cs cs') : ∀ (b : B) (l : Loc) (h : PH) (D D' : En), Enle D D' → evB G cs b l h D → evB G cs' b l h D'
  | .nil, l, h, D, D', k, q => k.nx _ _ q
  | .cons s b, l, h, D, D', k, q => evS_mono hc s _ _ { D with nx := fun l' h' => evB G cs b l' h' D } { D' with nx := fun l' h' => evB G cs' b l' h' D' } ⟨fun _ _ q => evB_mono hc b _ _ _ _ k q, k.rt, k.ct, k.ex⟩ q
end
theorem callS_le : ∀ (j k : Nat), j ≤ k → CSle (callS G j) (callS G k)
  | 0, _, _ => fun f xs h Q Q' X X' hQ hX q => q.elim
  | j + 1, 0, hj => absurd hj (Nat.not_succ_le_zero j)
  | j + 1, k + 1, hj => fun f xs h Q Q' X X' hQ hX q => by
      have ih := callS_le j k (Nat.le_of_succ_le_succ hj)
      cases f with
      | fn f =>
        obtain ⟨d, a, b, c, q⟩ := q
        exact ⟨d, a, b, c, evB_mono ih d.body _ _ ⟨fun _ h' => Q .non h', Q, fun _ _ => False, fun x _ h' => X x h'⟩ ⟨fun _ h' => Q' .non h', Q', fun _ _ => False, fun x _ h' => X' x h'⟩ ⟨fun _ _ q => hQ _ _ q, hQ, fun _ _ q => q, fun _ _ _ q => hX _ _ q⟩ q⟩
      | mk c =>
        obtain ⟨cd, a, q⟩ := q
        exact ⟨cd, a, ih _ _ _ _ _ _ _ (fun _ _ q => ⟨q.1, hQ _ _ q.2⟩) hX q⟩
theorem callS_mono {k : Nat} {f : FR} {xs : List PV} {h : PH} {Q Q' : KQ} {X X' : KX} (hQ : ∀ v h, Q v h → Q' v h) (hX : ∀ v h, X v h → X' v h) (q : callS G k f xs h Q X) : callS G k f xs h Q' X' :=
  callS_le k k (Nat.le_refl k) _ _ _ _ _ _ _ hQ hX q
end
end Py

set_option Elab.async false
set_option linter.all false
set_option maxRecDepth 100000
set_option maxHeartbeats 4000000
/-! PyHead: what the head's run looks at. -/
namespace Py
open PySem PySem.Spec PyProof.Rows L2
def bltNames : List Str := ["len", "list", "tuple", "isinstance", "int", "str", "bool", "min", "max", "sum", "abs", "repr", "sorted", "all", "dict", "range", "enumerate", "zip", "reversed", "set"]
theorem ba {a b : Bool} (h : (a && b) = true) : a = true ∧ b = true := Bool.and_eq_true_iff.mp h
def getF (f : Nat) : List (Nat × FD) → Option FD
  | [] => none
  | (g, x) :: r => if g = f then some x else getF f r
def AllP {α : Type} (P : Nat → α → Prop) : List (Nat × α) → Prop
  | [] => True
  | (g, x) :: r => P g x ∧ AllP P r
theorem getF_all {P : Nat → FD → Prop} : ∀ {l : List (Nat × FD)}, AllP P l → ∀ {f d}, getF f l = some d → P f d
  | [], _, _, _, h => nomatch h
  | (g, x) :: r, ⟨a, b⟩, f, d, h => by
    unfold getF at h
    split at h
    · rename_i e; cases h; exact e ▸ a
    · exact getF_all b h
theorem getN_all {P : Nat → PV → Prop} : ∀ {l : List (Nat × PV)}, AllP P l → ∀ {f d}, getN f l = some d → P f d
  | [], _, _, _, h => nomatch h
  | (g, x) :: r, ⟨a, b⟩, f, d, h => by
    unfold getN at h
    split at h
    · rename_i e; cases h; exact e ▸ a
    · exact getN_all b h
/-! ### constants of the module, as the heap has them -/
mutual
def chkV (K : PySem.W.Frag) : PV → Value → Bool
  | .non, .none => true
  | .bl b, .bool c => b == c
  | .int i, .int j _ => decide (i = j)
  | .str x, .str y _ => decide (x = y)
  | .tup xs, .ref a => (match K.lookup a with
    | some ⟨.type c, _, .seq its _, _⟩ => decide (c = "tuple") && (decide (its.size ≤ sizeLine) && chkVs K xs its.toList)
    | _ => false)
  | _, _ => false
def chkVs (K : PySem.W.Frag) : List PV → List Value → Bool
  | [], [] => true
  | x :: xs, u :: us => chkV K x u && chkVs K xs us
  | _, _ => false
end
def chkC (nm : Nat → Str) (l : List (Nat × PV)) (K : PySem.W.Frag) : Bool := l.all fun p => match PySem.W.nsIn K mainGlobals (nm p.1) with
  | some (some u) => chkV K p.2 u
  | _ => false
/-! ### the head's hook -/
/-! what the module's names reach, each object once; all in continuation style, so that the kernel has each list and number written out before it goes on -/
def force {β : Type} (n : Nat) (f : Nat → β) : β := Nat.rec (f 0) (fun k _ => f (k + 1)) n
theorem force_eq {β : Type} (n : Nat) (f : Nat → β) : force n f = f n := by cases n <;> rfl
def addAll {β : Type} : List Addr → Nat → List Addr → (List Addr → Nat → β) → β
  | [], seen, acc, k => k acc seen
  | a :: r, seen, acc, k => force a fun a => cond (Nat.testBit seen a) (addAll r seen acc k) (force (Nat.lor seen (Nat.shiftLeft 1 a)) fun s => addAll r s (a :: acc) k)
/-- the objects at these addresses are taken up; what they name is gathered -/
def layer {β : Type} (g : Addr → Option Obj) : List Addr → Nat → List Addr → PySem.W.Frag → (List Addr → Nat → PySem.W.Frag → β) → β
  | [], seen, new, K, k => k new seen K
  | a :: r, seen, new, K, k => match g a with
    | some o => addAll (He.refsD o) seen new fun new' seen' => layer g r seen' new' ((a, o) :: K) k
    | none => layer g r seen new K k
def layers {β : Type} (g : Addr → Option Obj) : Nat → List Addr → Nat → PySem.W.Frag → (PySem.W.Frag → β) → β
  | 0, fr, seen, K, k => k K
  | n + 1, fr, seen, K, k => layer g fr seen [] K fun new seen' K' => layers g n new seen' K' k
def revK {β : Type} : PySem.W.Frag → PySem.W.Frag → (PySem.W.Frag → β) → β
  | [], acc, k => k acc
  | p :: r, acc, k => revK r (p :: acc) k
def FrIn (g : Addr → Option Obj) (K : PySem.W.Frag) : Prop := ∀ p ∈ K, g p.1 = some p.2
theorem revK_eq {β : Type} {g : Addr → Option Obj} : ∀ (K acc : PySem.W.Frag) (k : PySem.W.Frag → β), FrIn g K → FrIn g acc → ∃ K', FrIn g K' ∧ revK K acc k = k K'
  | [], acc, k, _, h => ⟨acc, h, rfl⟩
  | p :: r, acc, k, h1, h2 => revK_eq r (p :: acc) k (fun q m => h1 q (List.mem_cons_of_mem _ m)) fun q m => by
    rcases List.mem_cons.mp m with rfl | m
    · exact h1 _ List.mem_cons_self
    · exact h2 q m
theorem FrIn.look {g : Addr → Option Obj} : ∀ {K : PySem.W.Frag}, FrIn g K → ∀ a o, K.lookup a = some o → g a = some o
  | [], _, a, o, q => by cases q
  | (b, u) :: r, h, a, o, q => by
    have q : (match a == b with | true => some u | false => List.lookup a r) = some o := q
    cases hb : a == b with
    | true => rw [hb] at q; cases q; rw [beq_iff_eq.mp hb]; exact h _ List.mem_cons_self
    | false => rw [hb] at q; exact FrIn.look (fun p m => h p (List.mem_cons_of_mem _ m)) a o q
theorem addAll_eq {β : Type} : ∀ (l : List Addr) (seen : Nat) (acc : List Addr) (k : List Addr → Nat → β), ∃ x y, addAll l seen acc k = k x y
  | [], seen, acc, k => ⟨_, _, rfl⟩
  | a :: r, seen, acc, k => by
    unfold addAll
    rw [force_eq]
    cases Nat.testBit seen a with
    | true => exact addAll_eq r seen acc k
    | false =>
      show ∃ x y, force (Nat.lor seen (Nat.shiftLeft 1 a)) (fun s => addAll r s (a :: acc) k) = k x y
      rw [force_eq]
      exact addAll_eq r _ _ k
theorem layer_eq {β : Type} {g : Addr → Option Obj} : ∀ (l : List Addr) (seen : Nat) (new : List Addr) (K : PySem.W.Frag) (k : List Addr → Nat → PySem.W.Frag → β), FrIn g K → ∃ x y K', FrIn g K' ∧ layer g l seen new K k = k x y K'
  | [], seen, new, K, k, h => ⟨_, _, K, h, rfl⟩
  | a :: r, seen, new, K, k, h => by
    unfold layer
    cases e : g a with
    | none => exact layer_eq r seen new K k h
    | some o =>
      dsimp only
      obtain ⟨x, y, e2⟩ := addAll_eq (He.refsD o) seen new fun new' seen' => layer g r seen' new' ((a, o) :: K) k
      rw [e2]
      refine layer_eq r y x ((a, o) :: K) k fun q m => ?_
      rcases List.mem_cons.mp m with rfl | m
      · exact e
      · exact h q m
theorem layers_eq {β : Type} {g : Addr → Option Obj} : ∀ (n : Nat) (l : List Addr) (seen : Nat) (K : PySem.W.Frag) (k : PySem.W.Frag → β), FrIn g K → ∃ K', FrIn g K' ∧ layers g n l seen K k = k K'
  | 0, l, seen, K, k, h => ⟨K, h, rfl⟩
  | n + 1, l, seen, K, k, h => by
    unfold layers
    obtain ⟨x, y, K', h', e⟩ := layer_eq (g := g) l seen [] K (fun new seen' K' => layers g n new seen' K' k) h
    rw [e]
    exact layers_eq n x y K' k h'
abbrev AlP : Type := Bool × He.AlD
def statK (g : Addr → Option Obj) : PySem.W.Frag := match g cStatics with
  | some o => [(cStatics, o)]
  | none => []
theorem statK_in {g : Addr → Option Obj} : FrIn g (statK g) := fun p m => by
  unfold statK at m
  cases e : g cStatics with
  | none => rw [e] at m; cases m
  | some o =>
    rw [e] at m
    rcases List.mem_cons.mp m with rfl | m
    · exact e
    · cases m
def obsP (n : Nat) (fa : List He.Fa) (fn : List He.DefD) (ex : PySem.W.Frag → Bool) (g : Addr → Option Obj) : AlP := layers g (n + 1) [mainGlobals] (Nat.shiftLeft 1 mainGlobals) (statK g) fun K => revK K [] fun K => (ex K, He.obsD fa fn K)
def hookP (n : Nat) (fa : List He.Fa) (fn : List He.DefD) (ex : PySem.W.Frag → Bool) : PySem.W.Hook where
  α := AlP
  obs := fun s => obsP n fa fn ex s.heap.get?
  val := fun _ => (true, He.valD fn)
  says := fun _ h => ∃ K : PySem.W.Frag, K.In h ∧ He.SaysD fa fn K ∧ ex K = true
  of := fun _ s e => by
    obtain ⟨K, h, e2⟩ := layers_eq (g := s.heap.get?) (n + 1) [mainGlobals] (Nat.shiftLeft 1 mainGlobals) (statK s.heap.get?) (fun K => revK K [] fun K => (ex K, He.obsD fa fn K)) statK_in
    obtain ⟨K', h', e3⟩ := revK_eq K [] (fun K => (ex K, He.obsD fa fn K)) h (fun q m => by cases m)
    have e : obsP n fa fn ex s.heap.get? = (true, He.valD fn) := e
    unfold obsP at e
    rw [e2, e3] at e
    exact ⟨K', h'.look, congrArg (fun z : AlP => z.2) e, congrArg (fun z : AlP => z.1) e⟩
  keeps := fun _ _ _ ⟨K, hK, c⟩ k => ⟨K, PySem.W.Frag.In.keeps hK k, c⟩
theorem obsP_eq {n : Nat} {fa : List He.Fa} {fn : List He.DefD} {ex : PySem.W.Frag → Bool} {g : Addr → Option Obj} {s : Shared} (h : ∀ a, g a = s.heap.get? a) : obsP n fa fn ex g = (hookP n fa fn ex).obs s := by
  have e : g = s.heap.get? := funext h
  rw [e] <;> rfl
/-! ### classes -/
/-- a method: found in the class, the very function at p -/
def chkM (K : PySem.W.Frag) (x m : Str) (p : Str × Option Str) : Bool := He.eqO (PySem.W.findIn K (.ref (He.ga K x)) m) (some (some (.ref (He.fAd K p)))) && (PySem.W.isFn K (.ref (He.fAd K p)) && PySem.W.keepIn K (.ref (He.fAd K p)))
def chkK (K : PySem.W.Frag) (x : Str) (p : Str × Option Str) : Bool := PySem.W.makesIn K (He.ga K x) && (He.eqO (PySem.W.findIn K (.ref (He.ga K x)) "__init__") (some (some (.ref (He.fAd K p)))) && (PySem.W.isFn K (.ref (He.fAd K p)) && PySem.W.keepIn K (.ref (He.ga K x))))
/-- C.__init__ read off the class -/
def chkI (K : PySem.W.Frag) (x : Str) (p : Str × Option Str) : Bool := PySem.W.readsIn K (He.ga K x) (.type "type") && (He.eqO (PySem.W.specialIn K (.ref (He.ga K x)) "__getattribute__") (some (some (.builtin "type.__getattribute__"))) &&
  (match PySem.W.findCls K (.ref (He.ga K x)) (.type "type") "__init__" with
  | some (.val (.ref a)) => decide (a = He.fAd K p)
  | _ => false))
def chkB (K : PySem.W.Frag) (x : Str) : Bool := PySem.W.makesIn K (He.ga K x) && (He.eqO (PySem.W.findIn K (.ref (He.ga K x)) "__init__") (some (some (.builtin "object.__init__"))) && (decide (PySem.W.mroIn K (He.ga K x) (.type "object") = some true) && PySem.W.keepIn K (.ref (He.ga K x))))
/-- a class, by its fields, methods, initialiser -/
def chkD (nm : Nat → Str) (at_ : Nat → Str × Option Str) (c : Nat) (cd : CD) (K : PySem.W.Frag) : Bool :=
  ((He.Fa.cls (nm c)).ok K && ((He.Fa.glo (nm c)).ok K && ((if cd.bare then chkB K (nm c) else chkK K (nm c) (at_ cd.init)) && (!cd.base || chkI K (nm c) (at_ cd.init))))) && ((cd.fields.all fun f => (He.Fa.noat (nm c) (nm f)).ok K) && cd.meths.all fun p => chkM K (nm c) (nm p.1) (at_ p.2))
/-- .. and what is plain of it -/
def plnD (nm : Nat → Str) (fn : Nat → Option FD) (cd : CD) : Bool :=
  (cd.bare || (fn cd.init).isSome) && ((cd.fields.all fun f => cd.fields.all fun g => decide (nm f = nm g → f = g)) && cd.meths.all fun p => (fn p.2).isSome && decide (nm p.1 ∉ cd.fields.map nm))
theorem getM_mem {m f : Nat} : ∀ {l : List (Nat × Nat)}, getM m l = some f → (m, f) ∈ l
  | (g, x) :: r, h => by
    unfold getM at h
    split at h
    · rename_i e; cases h; subst e; exact List.mem_cons_self
    · exact List.mem_cons_of_mem _ (getM_mem h)
def getC (f : Nat) : List (Nat × CD) → Option CD
  | [] => none
  | (g, x) :: r => if g = f then some x else getC f r
theorem getC_mem {m : Nat} {f : CD} : ∀ {l : List (Nat × CD)}, getC m l = some f → (m, f) ∈ l
  | (g, x) :: r, h => by
    unfold getC at h
    split at h
    · rename_i e; cases h; subst e; exact List.mem_cons_self
    · exact List.mem_cons_of_mem _ (getC_mem h)
end Py

set_option linter.all false
set_option maxRecDepth 100000
/-! The text of law 44 in our syntax (printed by gen.py). -/
namespace Py
open PySem
abbrev n__wall : Nat := 0
abbrev n_within : Nat := 1
abbrev n_two_told : Nat := 2
abbrev n_walked : Nat := 3
abbrev n_plains : Nat := 4
abbrev n_leaf_of : Nat := 5
abbrev n_thing_term_of : Nat := 6
abbrev n_term_of : Nat := 7
abbrev n_program_of : Nat := 8
abbrev n__law_cell_at : Nat := 9
abbrev n__law_mixed : Nat := 10
abbrev n__law_tree : Nat := 11
abbrev n__law_told : Nat := 12
abbrev n__law_houses : Nat := 13
abbrev n__law_asked : Nat := 14
abbrev n_law : Nat := 15
abbrev n_Guest : Nat := 16
abbrev n_Hall : Nat := 17
abbrev n_Wait : Nat := 18
abbrev n_GatherWait : Nat := 19
abbrev n_NewWait : Nat := 20
abbrev n_CallWait : Nat := 21
abbrev n_ElderWait : Nat := 22
abbrev n_TwoWait : Nat := 23
abbrev n_SetWait : Nat := 24
abbrev n_FieldWait : Nat := 25
abbrev n_NotWait : Nat := 26
abbrev n_IfWait : Nat := 27
abbrev n_LetWait : Nat := 28
abbrev n_LooseWait : Nat := 29
abbrev n_BackWait : Nat := 30
abbrev n_Walk : Nat := 31
abbrev n_Term : Nat := 32
abbrev n_NumberTerm : Nat := 33
abbrev n_TruthTerm : Nat := 34
abbrev n_NameTerm : Nat := 35
abbrev n_SelfTerm : Nat := 36
abbrev n_NewTerm : Nat := 37
abbrev n_ElderTerm : Nat := 38
abbrev n_FieldTerm : Nat := 39
abbrev n_CallTerm : Nat := 40
abbrev n_NotTerm : Nat := 41
abbrev n_TwoTerm : Nat := 42
abbrev n_IfTerm : Nat := 43
abbrev n_LetTerm : Nat := 44
abbrev n_SetTerm : Nat := 45
abbrev n_Program : Nat := 46
abbrev n_GREATEST : Nat := 47
abbrev n_MOST_OPEN : Nat := 48
abbrev n_Guest_at_number : Nat := 49
abbrev n_Guest_at_truth : Nat := 50
abbrev n_Guest_at_name : Nat := 51
abbrev n_Guest_at_self : Nat := 52
abbrev n_Guest_at_new : Nat := 53
abbrev n_Guest_at_elder : Nat := 54
abbrev n_Guest_at_field : Nat := 55
abbrev n_Guest_at_call : Nat := 56
abbrev n_Guest_at_not : Nat := 57
abbrev n_Guest_at_two : Nat := 58
abbrev n_Guest_at_if : Nat := 59
abbrev n_Guest_at_let : Nat := 60
abbrev n_Guest_at_set : Nat := 61
abbrev n_Hall___init__ : Nat := 62
abbrev n_Hall_houses : Nat := 63
abbrev n_Hall_elders : Nat := 64
abbrev n_Hall_younger : Nat := 65
abbrev n_Hall_fields : Nat := 66
abbrev n_Hall_place : Nat := 67
abbrev n_Hall_found : Nat := 68
abbrev n_Hall_head : Nat := 69
abbrev n_Wait_goes_on : Nat := 70
abbrev n_GatherWait___init__ : Nat := 71
abbrev n_GatherWait_begins : Nat := 72
abbrev n_GatherWait_goes_on : Nat := 73
abbrev n_GatherWait_gathered : Nat := 74
abbrev n_NewWait___init__ : Nat := 75
abbrev n_NewWait_gathered : Nat := 76
abbrev n_CallWait___init__ : Nat := 77
abbrev n_CallWait_gathered : Nat := 78
abbrev n_ElderWait___init__ : Nat := 79
abbrev n_ElderWait_gathered : Nat := 80
abbrev n_TwoWait___init__ : Nat := 81
abbrev n_TwoWait_gathered : Nat := 82
abbrev n_SetWait___init__ : Nat := 83
abbrev n_SetWait_gathered : Nat := 84
abbrev n_FieldWait___init__ : Nat := 85
abbrev n_FieldWait_goes_on : Nat := 86
abbrev n_NotWait_goes_on : Nat := 87
abbrev n_IfWait___init__ : Nat := 88
abbrev n_IfWait_goes_on : Nat := 89
abbrev n_LetWait___init__ : Nat := 90
abbrev n_LetWait_goes_on : Nat := 91
abbrev n_LooseWait___init__ : Nat := 92
abbrev n_LooseWait_goes_on : Nat := 93
abbrev n_BackWait___init__ : Nat := 94
abbrev n_BackWait_goes_on : Nat := 95
abbrev n_Walk___init__ : Nat := 96
abbrev n_Walk_at_number : Nat := 97
abbrev n_Walk_at_truth : Nat := 98
abbrev n_Walk_at_name : Nat := 99
abbrev n_Walk_at_self : Nat := 100
abbrev n_Walk_at_new : Nat := 101
abbrev n_Walk_at_elder : Nat := 102
abbrev n_Walk_at_call : Nat := 103
abbrev n_Walk_at_two : Nat := 104
abbrev n_Walk_at_set : Nat := 105
abbrev n_Walk_at_field : Nat := 106
abbrev n_Walk_at_not : Nat := 107
abbrev n_Walk_at_if : Nat := 108
abbrev n_Walk_at_let : Nat := 109
abbrev n_Walk_enter : Nat := 110
abbrev n_Walk_goes : Nat := 111
abbrev n_Term___init__ : Nat := 112
abbrev n_Term_meet : Nat := 113
abbrev n_Term_plain : Nat := 114
abbrev n_Term_parts : Nat := 115
abbrev n_Term_depth : Nat := 116
abbrev n_Term_size : Nat := 117
abbrev n_NumberTerm___init__ : Nat := 118
abbrev n_NumberTerm_meet : Nat := 119
abbrev n_NumberTerm_plain : Nat := 120
abbrev n_TruthTerm___init__ : Nat := 121
abbrev n_TruthTerm_meet : Nat := 122
abbrev n_TruthTerm_plain : Nat := 123
abbrev n_NameTerm___init__ : Nat := 124
abbrev n_NameTerm_meet : Nat := 125
abbrev n_NameTerm_plain : Nat := 126
abbrev n_SelfTerm___init__ : Nat := 127
abbrev n_SelfTerm_meet : Nat := 128
abbrev n_SelfTerm_plain : Nat := 129
abbrev n_NewTerm___init__ : Nat := 130
abbrev n_NewTerm_meet : Nat := 131
abbrev n_NewTerm_plain : Nat := 132
abbrev n_ElderTerm___init__ : Nat := 133
abbrev n_ElderTerm_meet : Nat := 134
abbrev n_ElderTerm_plain : Nat := 135
abbrev n_FieldTerm___init__ : Nat := 136
abbrev n_FieldTerm_meet : Nat := 137
abbrev n_FieldTerm_plain : Nat := 138
abbrev n_CallTerm___init__ : Nat := 139
abbrev n_CallTerm_meet : Nat := 140
abbrev n_CallTerm_plain : Nat := 141
abbrev n_NotTerm___init__ : Nat := 142
abbrev n_NotTerm_meet : Nat := 143
abbrev n_NotTerm_plain : Nat := 144
abbrev n_TwoTerm___init__ : Nat := 145
abbrev n_TwoTerm_meet : Nat := 146
abbrev n_TwoTerm_plain : Nat := 147
abbrev n_IfTerm___init__ : Nat := 148
abbrev n_IfTerm_meet : Nat := 149
abbrev n_IfTerm_plain : Nat := 150
abbrev n_LetTerm___init__ : Nat := 151
abbrev n_LetTerm_meet : Nat := 152
abbrev n_LetTerm_plain : Nat := 153
abbrev n_SetTerm___init__ : Nat := 154
abbrev n_SetTerm_meet : Nat := 155
abbrev n_SetTerm_plain : Nat := 156
abbrev n_Program___init__ : Nat := 157
abbrev n_Program_bodies : Nat := 158
abbrev n_Program_plain : Nat := 159
abbrev n_made : Nat := 160
abbrev n_counted : Nat := 161
abbrev n_ended : Nat := 162
abbrev n_goes : Nat := 163
abbrev n_due : Nat := 164
abbrev n_bound : Nat := 165
abbrev n_main_told : Nat := 166
abbrev n_plain : Nat := 167
abbrev n_houses_told : Nat := 168
abbrev n_heads : Nat := 169
abbrev n_own : Nat := 170
abbrev n_above : Nat := 171
abbrev n_order : Nat := 172
abbrev n_elders : Nat := 173
abbrev n_fields : Nat := 174
abbrev n_known : Nat := 175
abbrev n_left : Nat := 176
abbrev n_gathered : Nat := 177
abbrev n_waiting : Nat := 178
abbrev n_begins : Nat := 179
abbrev n_called : Nat := 180
abbrev n_parts : Nat := 181
abbrev n_got : Nat := 182
abbrev n_enter : Nat := 183
abbrev n_hall : Nat := 184
abbrev n_found : Nat := 185
abbrev n_home : Nat := 186
abbrev n_sign : Nat := 187
abbrev n_place : Nat := 188
abbrev n_third : Nat := 189
abbrev n_other : Nat := 190
abbrev n_open_calls : Nat := 191
abbrev n_most : Nat := 192
abbrev n_words_by : Nat := 193
abbrev n_number : Nat := 194
abbrev n_is_yes : Nat := 195
abbrev n_thing : Nat := 196
abbrev n_one : Nat := 197
abbrev n_meet : Nat := 198
abbrev n_goes_on : Nat := 199
abbrev n_many : Nat := 200
abbrev n_height : Nat := 201
abbrev n_inner : Nat := 202
abbrev n_at_number : Nat := 203
abbrev n_at_truth : Nat := 204
abbrev n_at_name : Nat := 205
abbrev n_at_self : Nat := 206
abbrev n_at_new : Nat := 207
abbrev n_at_elder : Nat := 208
abbrev n_at_field : Nat := 209
abbrev n_given : Nat := 210
abbrev n_at_call : Nat := 211
abbrev n_at_not : Nat := 212
abbrev n_at_two : Nat := 213
abbrev n_at_if : Nat := 214
abbrev n_at_let : Nat := 215
abbrev n_at_set : Nat := 216
abbrev n_houses : Nat := 217
abbrev n_younger : Nat := 218
abbrev n_head : Nat := 219
abbrev n_Qbare : Nat := 220
abbrev n_depth : Nat := 221
abbrev n_size : Nat := 222
abbrev n_bodies : Nat := 223
def tab0 : List Str := ["_wall", "within", "two_told", "walked", "plains", "leaf_of", "thing_term_of", "term_of", "program_of", "_law_cell_at", "_law_mixed", "_law_tree", "_law_told", "_law_houses", "_law_asked", "law", "Guest", "Hall", "Wait", "GatherWait", "NewWait", "CallWait", "ElderWait", "TwoWait", "SetWait", "FieldWait", "NotWait", "IfWait", "LetWait", "LooseWait"]
def tab1 : List Str := ["BackWait", "Walk", "Term", "NumberTerm", "TruthTerm", "NameTerm", "SelfTerm", "NewTerm", "ElderTerm", "FieldTerm", "CallTerm", "NotTerm", "TwoTerm", "IfTerm", "LetTerm", "SetTerm", "Program", "GREATEST", "MOST_OPEN", "at_number", "at_truth", "at_name", "at_self", "at_new", "at_elder", "at_field", "at_call", "at_not", "at_two", "at_if"]
def tab2 : List Str := ["at_let", "at_set", "__init__", "houses", "elders", "younger", "fields", "place", "found", "head", "goes_on", "__init__", "begins", "goes_on", "gathered", "__init__", "gathered", "__init__", "gathered", "__init__", "gathered", "__init__", "gathered", "__init__", "gathered", "__init__", "goes_on", "goes_on", "__init__", "goes_on"]
def tab3 : List Str := ["__init__", "goes_on", "__init__", "goes_on", "__init__", "goes_on", "__init__", "at_number", "at_truth", "at_name", "at_self", "at_new", "at_elder", "at_call", "at_two", "at_set", "at_field", "at_not", "at_if", "at_let", "enter", "goes", "__init__", "meet", "plain", "parts", "depth", "size", "__init__", "meet"]
def tab4 : List Str := ["plain", "__init__", "meet", "plain", "__init__", "meet", "plain", "__init__", "meet", "plain", "__init__", "meet", "plain", "__init__", "meet", "plain", "__init__", "meet", "plain", "__init__", "meet", "plain", "__init__", "meet", "plain", "__init__", "meet", "plain", "__init__", "meet"]
def tab5 : List Str := ["plain", "__init__", "meet", "plain", "__init__", "meet", "plain", "__init__", "bodies", "plain", "made", "counted", "ended", "goes", "due", "bound", "main_told", "plain", "houses_told", "heads", "own", "above", "order", "elders", "fields", "known", "left", "gathered", "waiting", "begins"]
def tab6 : List Str := ["called", "parts", "got", "enter", "hall", "found", "home", "sign", "place", "third", "other", "open_calls", "most", "words_by", "number", "is_yes", "thing", "one", "meet", "goes_on", "many", "height", "inner", "at_number", "at_truth", "at_name", "at_self", "at_new", "at_elder", "at_field"]
def tab7 : List Str := ["given", "at_call", "at_not", "at_two", "at_if", "at_let", "at_set", "houses", "younger", "head", "?bare", "depth", "size", "bodies"]
def nmT (i : Nat) : Str := (tab0 ++ tab1 ++ tab2 ++ tab3 ++ tab4 ++ tab5 ++ tab6 ++ tab7).getD i ""
/-- _wall(k) -/
def b__wall : B :=
  (.cons (.whl (.v (.bl true)) (.cons .pas
  .nil))
  .nil)
def d__wall : FD := ⟨1, 1, b__wall, [], none⟩
/-- within(number) -/
def b_within : B :=
  (.cons (.ife (.or (.cmp .lt (.var 0) (.bin .sub (.int 0) (.glob n_GREATEST))) (.cmp .gt (.var 0) (.glob n_GREATEST))) (.cons (.ret (.tup (.cons (.str "refused") (.cons (.str "great") .nil))))
  .nil) .nil)
  (.cons (.ret (.tup (.cons (.str "value") (.cons (.var 0) .nil))))
  .nil))
def d_within : FD := ⟨1, 1, b_within, [], none⟩
/-- two_told(sign, a, b) -/
def b_two_told : B :=
  (.cons (.ife (.cmp .eq (.var 0) (.str "+")) (.cons (.ret (.call n_within (.cons (.bin .add (.var 1) (.var 2)) .nil)))
  .nil) .nil)
  (.cons (.ife (.cmp .eq (.var 0) (.str "-")) (.cons (.ret (.call n_within (.cons (.bin .sub (.var 1) (.var 2)) .nil)))
  .nil) .nil)
  (.cons (.ife (.cmp .eq (.var 0) (.str "*")) (.cons (.ret (.call n_within (.cons (.bin .mul (.var 1) (.var 2)) .nil)))
  .nil) .nil)
  (.cons (.ife (.cmp .eq (.var 0) (.str "<")) (.cons (.ret (.tup (.cons (.str "value") (.cons (.cmp .lt (.var 1) (.var 2)) .nil))))
  .nil) .nil)
  (.cons (.ife (.cmp .eq (.var 0) (.str "=")) (.cons (.ret (.tup (.cons (.str "value") (.cons (.cmp .eq (.var 1) (.var 2)) .nil))))
  .nil) .nil)
  (.cons (.ife (.cmp .eq (.var 2) (.int 0)) (.cons (.ret (.tup (.cons (.str "refused") (.cons (.str "nought") .nil))))
  .nil) .nil)
  (.cons (.ret (.call n_within (.cons (.bin .fdiv (.var 1) (.var 2)) .nil)))
  .nil)))))))
def d_two_told : FD := ⟨3, 3, b_two_told, [], none⟩
/-- walked(program, numbers, most, walk, params, kind, term, param, number) -/
def b_walked : B :=
  (.cons (.asg (.nm 3) (.mk n_Walk (.cons (.var 0) (.cons (.var 2) .nil))))
  (.cons (.asg (.tup (.cons (.nm 4) (.cons (.nm 5) (.cons (.nm 6) .nil)))) (.attr (.var 0) n_main_told))
  (.cons (.asg (.attr (.var 3) n_bound) (.lc (.tup (.cons (.idx (.var 7) (.int 0)) (.cons (.var 8) .nil))) (.tup (.cons (.nm 7) (.cons (.nm 8) .nil))) (.zip2 (.var 4) (.var 1)) .no))
  (.cons (.asg (.attr (.var 3) n_due) (.var 6))
  (.cons (.whl (.cmp .isN (.attr (.var 3) n_ended) .non) (.cons (.exp (.meth (.var 3) n_goes .nil))
  .nil))
  (.cons (.ret (.tup (.cons (.attr (.var 3) n_ended) (.cons (.attr (.var 3) n_counted) (.cons (.bf .list1 (.cons (.attr (.var 3) n_made) .nil)) .nil)))))
  .nil))))))
def d_walked : FD := ⟨3, 9, b_walked, [(.int 100)], none⟩
/-- plains(terms, term) -/
def b_plains : B :=
  (.cons (.ret (.bf .tuple1 (.cons (.lc (.meth (.var 1) n_plain .nil) (.nm 1) (.seq (.var 0)) .no) .nil)))
  .nil)
def d_plains : FD := ⟨1, 2, b_plains, [], none⟩
/-- leaf_of(plain) -/
def b_leaf_of : B :=
  (.cons (.ife (.cmp .eq (.idx (.var 0) (.int 0)) (.str "number")) (.cons (.ret (.mk n_NumberTerm (.cons (.idx (.var 0) (.int 1)) .nil)))
  .nil) .nil)
  (.cons (.ife (.cmp .eq (.idx (.var 0) (.int 0)) (.str "truth")) (.cons (.ret (.mk n_TruthTerm (.cons (.idx (.var 0) (.int 1)) .nil)))
  .nil) .nil)
  (.cons (.ife (.cmp .eq (.idx (.var 0) (.int 0)) (.str "name")) (.cons (.ret (.mk n_NameTerm (.cons (.idx (.var 0) (.int 1)) .nil)))
  .nil) .nil)
  (.cons (.ife (.cmp .eq (.idx (.var 0) (.int 0)) (.str "self")) (.cons (.ret (.mk n_SelfTerm .nil))
  .nil) .nil)
  (.cons (.ret .non)
  .nil)))))
def d_leaf_of : FD := ⟨1, 1, b_leaf_of, [], none⟩
/-- thing_term_of(plain, part) -/
def b_thing_term_of : B :=
  (.cons (.ife (.cmp .eq (.idx (.var 0) (.int 0)) (.str "new")) (.cons (.ret (.mk n_NewTerm (.cons (.idx (.var 0) (.int 1)) (.cons (.lc (.call n_term_of (.cons (.var 1) .nil)) (.nm 1) (.seq (.idx (.var 0) (.int 2))) .no) .nil))))
  .nil) .nil)
  (.cons (.ife (.cmp .eq (.idx (.var 0) (.int 0)) (.str "elder")) (.cons (.ret (.mk n_ElderTerm (.cons (.idx (.var 0) (.int 1)) (.cons (.lc (.call n_term_of (.cons (.var 1) .nil)) (.nm 1) (.seq (.idx (.var 0) (.int 2))) .no) .nil))))
  .nil) .nil)
  (.cons (.ife (.cmp .eq (.idx (.var 0) (.int 0)) (.str "field")) (.cons (.ret (.mk n_FieldTerm (.cons (.call n_term_of (.cons (.idx (.var 0) (.int 1)) .nil)) (.cons (.idx (.var 0) (.int 2)) .nil))))
  .nil) .nil)
  (.cons (.ife (.cmp .eq (.idx (.var 0) (.int 0)) (.str "call")) (.cons (.ret (.mk n_CallTerm (.cons (.call n_term_of (.cons (.idx (.var 0) (.int 1)) .nil)) (.cons (.idx (.var 0) (.int 2)) (.cons (.lc (.call n_term_of (.cons (.var 1) .nil)) (.nm 1) (.seq (.idx (.var 0) (.int 3))) .no) .nil)))))
  .nil) .nil)
  (.cons (.ife (.cmp .eq (.idx (.var 0) (.int 0)) (.str "set")) (.cons (.ret (.mk n_SetTerm (.cons (.call n_term_of (.cons (.idx (.var 0) (.int 1)) .nil)) (.cons (.idx (.var 0) (.int 2)) (.cons (.call n_term_of (.cons (.idx (.var 0) (.int 3)) .nil)) .nil)))))
  .nil) .nil)
  (.cons (.ret .non)
  .nil))))))
def d_thing_term_of : FD := ⟨1, 2, b_thing_term_of, [], none⟩
/-- term_of(plain, found) -/
def b_term_of : B :=
  (.cons (.asg (.nm 1) (.call n_leaf_of (.cons (.var 0) .nil)))
  (.cons (.ife (.cmp .isN (.var 1) .non) (.cons (.asg (.nm 1) (.call n_thing_term_of (.cons (.var 0) .nil)))
  .nil) .nil)
  (.cons (.ife (.cmp .notN (.var 1) .non) (.cons (.ret (.var 1))
  .nil) .nil)
  (.cons (.ife (.cmp .eq (.idx (.var 0) (.int 0)) (.str "not")) (.cons (.ret (.mk n_NotTerm (.cons (.call n_term_of (.cons (.idx (.var 0) (.int 1)) .nil)) .nil)))
  .nil) .nil)
  (.cons (.ife (.cmp .eq (.idx (.var 0) (.int 0)) (.str "two")) (.cons (.ret (.mk n_TwoTerm (.cons (.idx (.var 0) (.int 1)) (.cons (.call n_term_of (.cons (.idx (.var 0) (.int 2)) .nil)) (.cons (.call n_term_of (.cons (.idx (.var 0) (.int 3)) .nil)) .nil)))))
  .nil) .nil)
  (.cons (.ife (.cmp .eq (.idx (.var 0) (.int 0)) (.str "let")) (.cons (.ret (.mk n_LetTerm (.cons (.idx (.var 0) (.int 1)) (.cons (.call n_term_of (.cons (.idx (.var 0) (.int 2)) .nil)) (.cons (.call n_term_of (.cons (.idx (.var 0) (.int 3)) .nil)) .nil)))))
  .nil) .nil)
  (.cons (.ret (.mk n_IfTerm (.cons (.call n_term_of (.cons (.idx (.var 0) (.int 1)) .nil)) (.cons (.call n_term_of (.cons (.idx (.var 0) (.int 2)) .nil)) (.cons (.call n_term_of (.cons (.idx (.var 0) (.int 3)) .nil)) .nil)))))
  .nil)))))))
def d_term_of : FD := ⟨1, 2, b_term_of, [], none⟩
/-- program_of(plain, houses, name, elder, fields, told, params, kind, term, word) -/
def b_program_of : B :=
  (.cons (.asg (.nm 1) (.lst .nil))
  (.cons (.for (.tup (.cons (.nm 2) (.cons (.nm 3) (.cons (.nm 4) (.cons (.nm 5) .nil))))) (.seq (.idx (.var 0) (.int 0))) (.cons (.exp (.bm .append (.var 1) (.cons (.tup (.cons (.var 2) (.cons (.var 3) (.cons (.var 4) (.cons (.lc (.tup (.cons (.idx (.var 9) (.int 0)) (.cons (.idx (.var 9) (.int 1)) (.cons (.idx (.var 9) (.int 2)) (.cons (.call n_term_of (.cons (.idx (.var 9) (.int 3)) .nil)) .nil))))) (.nm 9) (.seq (.var 5)) .no) .nil))))) .nil)))
  .nil))
  (.cons (.asg (.tup (.cons (.nm 6) (.cons (.nm 7) (.cons (.nm 8) .nil)))) (.idx (.var 0) (.int 1)))
  (.cons (.ret (.mk n_Program (.cons (.var 1) (.cons (.tup (.cons (.var 6) (.cons (.var 7) (.cons (.call n_term_of (.cons (.var 8) .nil)) .nil)))) .nil))))
  .nil))))
def d_program_of : FD := ⟨1, 10, b_program_of, [], none⟩
/-- _law_cell_at(_law_script, _law_k) -/
def b__law_cell_at : B :=
  (.cons (.ife (.cmp .lt (.var 1) (.bf .len (.cons (.var 0) .nil))) (.cons (.ret (.idx (.var 0) (.var 1)))
  .nil) .nil)
  (.cons (.ret (.int 0))
  .nil))
def d__law_cell_at : FD := ⟨2, 2, b__law_cell_at, [], none⟩
/-- _law_mixed(_law_cell, _law_k) -/
def b__law_mixed : B :=
  (.cons (.ret (.bin .mod (.bin .add (.bin .add (.bin .add (.bin .mul (.var 0) (.int 48271)) (.bin .mul (.bin .mul (.int 104729) (.var 1)) (.var 1))) (.bin .mul (.int 7919) (.var 1))) (.int 12345)) (.int 2147483647)))
  .nil)
def d__law_mixed : FD := ⟨2, 2, b__law_mixed, [], none⟩
/-- _law_tree(_law_script, _law_many, _law_found, _law_k, _law_cell, _law_elder, _law_put) -/
def b__law_tree : B :=
  (.cons (.asg (.nm 2) (.lst (.cons (.tup (.cons .non (.cons (.tup (.cons (.bl false) (.cons (.int 1) .nil))) .nil))) .nil)))
  (.cons (.for (.nm 3) (.rng2 (.int 1) (.var 1)) (.cons (.asg (.nm 4) (.call n__law_mixed (.cons (.call n__law_cell_at (.cons (.var 0) (.cons (.bin .add (.int 1) (.var 3)) .nil))) (.cons (.var 3) .nil))))
  (.cons (.asg (.nm 5) (.idx (.lst (.cons (.bin .sub (.var 3) (.int 1)) (.cons (.bin .mod (.bin .fdiv (.var 4) (.int 3)) (.var 3)) .nil))) (.bin .fdiv (.bin .mod (.var 4) (.int 3)) (.int 2))))
  (.cons (.asg (.nm 6) .non)
  (.cons (.ife (.cmp .gt (.bin .mod (.bin .fdiv (.var 4) (.int 100)) (.int 5)) (.int 1)) (.cons (.asg (.nm 6) (.tup (.cons (.cmp .eq (.bin .mod (.bin .fdiv (.var 4) (.int 500)) (.int 2)) (.int 1)) (.cons (.bin .add (.int 1) (.bin .mod (.bin .fdiv (.var 4) (.int 1000)) (.int 4))) .nil))))
  .nil) .nil)
  (.cons (.exp (.bm .append (.var 2) (.cons (.tup (.cons (.var 5) (.cons (.var 6) .nil))) .nil)))
  .nil))))))
  (.cons (.ret (.var 2))
  .nil)))
def d__law_tree : FD := ⟨2, 7, b__law_tree, [], none⟩
/-- _law_told(_law_tree_here, _law_k, _law_number, _law_calls, _law_more) -/
def b__law_told : B :=
  (.cons (.whl (.cmp .isN (.idx (.idx (.var 0) (.var 1)) (.int 1)) .non) (.cons (.asg (.nm 1) (.idx (.idx (.var 0) (.var 1)) (.int 0)))
  .nil))
  (.cons (.asg (.tup (.cons (.nm 2) (.cons (.nm 3) .nil))) (.tup (.cons (.idx (.idx (.idx (.var 0) (.var 1)) (.int 1)) (.int 1)) (.cons (.int 1) .nil))))
  (.cons (.ife (.v (.idx (.idx (.idx (.var 0) (.var 1)) (.int 1)) (.int 0))) (.cons (.asg (.nm 4) (.call n__law_told (.cons (.var 0) (.cons (.idx (.idx (.var 0) (.var 1)) (.int 0)) .nil))))
  (.cons (.asg (.tup (.cons (.nm 2) (.cons (.nm 3) .nil))) (.tup (.cons (.bin .add (.var 2) (.idx (.var 4) (.int 0))) (.cons (.bin .add (.var 3) (.idx (.var 4) (.int 1))) .nil))))
  .nil)) .nil)
  (.cons (.ret (.tup (.cons (.var 2) (.cons (.var 3) .nil))))
  .nil))))
def d__law_told : FD := ⟨2, 5, b__law_told, [], none⟩
/-- _law_houses(_law_tree_here, _law_names, _law_asks, _law_me, _law_found, _law_k, _law_told_here, _law_body, _law_elder) -/
def b__law_houses : B :=
  (.cons (.asg (.nm 2) (.tup (.cons (.str "ask") (.cons (.tup (.cons (.tup (.cons (.str "x") (.cons (.idx (.var 1) (.int 0)) .nil))) .nil)) (.cons (.str "number") (.cons (.tup (.cons (.str "call") (.cons (.tup (.cons (.str "name") (.cons (.str "x") .nil))) (.cons (.str "w") (.cons (.tup .nil) .nil))))) .nil))))))
  (.cons (.asg (.nm 3) (.tup (.cons (.str "me") (.cons (.tup .nil) (.cons (.str "number") (.cons (.tup (.cons (.str "call") (.cons (.tup (.cons (.str "self") .nil)) (.cons (.str "w") (.cons (.tup .nil) .nil))))) .nil))))))
  (.cons (.asg (.nm 4) (.lst .nil))
  (.cons (.for (.nm 5) (.rng1 (.bf .len (.cons (.var 0) .nil))) (.cons (.asg (.nm 6) (.bin .mul (.lst (.cons (.var 2) (.cons (.var 3) .nil))) (.bf .int1 (.cons (.cmp .eq (.var 5) (.int 0)) .nil))))
  (.cons (.ife (.cmp .notN (.idx (.idx (.var 0) (.var 5)) (.int 1)) .non) (.cons (.asg (.nm 7) (.tup (.cons (.str "number") (.cons (.idx (.idx (.idx (.var 0) (.var 5)) (.int 1)) (.int 1)) .nil))))
  (.cons (.ife (.v (.idx (.idx (.idx (.var 0) (.var 5)) (.int 1)) (.int 0))) (.cons (.asg (.nm 7) (.tup (.cons (.str "two") (.cons (.str "+") (.cons (.var 7) (.cons (.tup (.cons (.str "elder") (.cons (.str "w") (.cons (.tup .nil) .nil)))) .nil))))))
  .nil) .nil)
  (.cons (.asg (.nm 6) (.bin .add (.var 6) (.lst (.cons (.tup (.cons (.str "w") (.cons (.tup .nil) (.cons (.str "number") (.cons (.var 7) .nil))))) .nil))))
  .nil))) .nil)
  (.cons (.asg (.nm 8) .non)
  (.cons (.ife (.cmp .gt (.var 5) (.int 0)) (.cons (.asg (.nm 8) (.idx (.var 1) (.idx (.idx (.var 0) (.var 5)) (.int 0))))
  .nil) .nil)
  (.cons (.exp (.bm .append (.var 4) (.cons (.tup (.cons (.idx (.var 1) (.var 5)) (.cons (.var 8) (.cons (.tup .nil) (.cons (.bf .tuple1 (.cons (.var 6) .nil)) .nil))))) .nil)))
  .nil))))))
  (.cons (.ret (.bin .add (.var 4) (.lst (.cons (.tup (.cons (.str "keeper") (.cons .non (.cons (.tup (.cons (.tup (.cons (.str "held") (.cons (.idx (.var 1) (.int 0)) .nil))) .nil)) (.cons (.tup .nil) .nil))))) .nil))))
  .nil)))))
def d__law_houses : FD := ⟨2, 9, b__law_houses, [], none⟩
/-- _law_asked(_law_names, _law_way, _law_k, _law_made, _law_kept) -/
def b__law_asked : B :=
  (.cons (.asg (.nm 3) (.tup (.cons (.str "new") (.cons (.idx (.var 0) (.var 2)) (.cons (.tup .nil) .nil)))))
  (.cons (.ife (.cmp .eq (.var 1) (.int 0)) (.cons (.ret (.tup (.cons (.tup (.cons (.str "call") (.cons (.var 3) (.cons (.str "w") (.cons (.tup .nil) .nil))))) (.cons (.lst (.cons (.tup (.cons (.idx (.var 0) (.var 2)) (.cons (.tup .nil) .nil))) .nil)) (.cons (.int 0) .nil)))))
  .nil) .nil)
  (.cons (.ife (.cmp .eq (.var 1) (.int 1)) (.cons (.ret (.tup (.cons (.tup (.cons (.str "let") (.cons (.str "x") (.cons (.var 3) (.cons (.tup (.cons (.str "call") (.cons (.tup (.cons (.str "name") (.cons (.str "x") .nil))) (.cons (.str "w") (.cons (.tup .nil) .nil))))) .nil))))) (.cons (.lst (.cons (.tup (.cons (.idx (.var 0) (.var 2)) (.cons (.tup .nil) .nil))) .nil)) (.cons (.int 0) .nil)))))
  .nil) .nil)
  (.cons (.ife (.cmp .eq (.var 1) (.int 2)) (.cons (.ret (.tup (.cons (.tup (.cons (.str "call") (.cons (.tup (.cons (.str "new") (.cons (.idx (.var 0) (.int 0)) (.cons (.tup .nil) .nil)))) (.cons (.str "ask") (.cons (.tup (.cons (.var 3) .nil)) .nil))))) (.cons (.lst (.cons (.tup (.cons (.idx (.var 0) (.int 0)) (.cons (.tup .nil) .nil))) (.cons (.tup (.cons (.idx (.var 0) (.var 2)) (.cons (.tup .nil) .nil))) .nil))) (.cons (.int 1) .nil)))))
  .nil) .nil)
  (.cons (.ife (.cmp .eq (.var 1) (.int 3)) (.cons (.ret (.tup (.cons (.tup (.cons (.str "call") (.cons (.var 3) (.cons (.str "me") (.cons (.tup .nil) .nil))))) (.cons (.lst (.cons (.tup (.cons (.idx (.var 0) (.var 2)) (.cons (.tup .nil) .nil))) .nil)) (.cons (.int 1) .nil)))))
  .nil) .nil)
  (.cons (.ife (.cmp .eq (.var 1) (.int 4)) (.cons (.asg (.nm 4) (.tup (.cons (.str "field") (.cons (.tup (.cons (.str "new") (.cons (.str "keeper") (.cons (.tup (.cons (.var 3) .nil)) .nil)))) (.cons (.str "held") .nil)))))
  (.cons (.ret (.tup (.cons (.tup (.cons (.str "call") (.cons (.var 4) (.cons (.str "w") (.cons (.tup .nil) .nil))))) (.cons (.lst (.cons (.tup (.cons (.idx (.var 0) (.var 2)) (.cons (.tup .nil) .nil))) (.cons (.tup (.cons (.str "keeper") (.cons (.neg (.int 1)) .nil))) .nil))) (.cons (.int 0) .nil)))))
  .nil)) .nil)
  (.cons (.asg (.nm 4) (.tup (.cons (.str "set") (.cons (.tup (.cons (.str "new") (.cons (.str "keeper") (.cons (.tup (.cons (.tup (.cons (.str "new") (.cons (.idx (.var 0) (.int 0)) (.cons (.tup .nil) .nil)))) .nil)) .nil)))) (.cons (.str "held") (.cons (.var 3) .nil))))))
  (.cons (.ret (.tup (.cons (.tup (.cons (.str "call") (.cons (.var 4) (.cons (.str "w") (.cons (.tup .nil) .nil))))) (.cons (.lst (.cons (.tup (.cons (.idx (.var 0) (.int 0)) (.cons (.tup .nil) .nil))) (.cons (.tup (.cons (.str "keeper") (.cons (.int 1) .nil))) (.cons (.tup (.cons (.idx (.var 0) (.var 2)) (.cons (.tup .nil) .nil))) .nil)))) (.cons (.int 0) .nil)))))
  .nil))))))))
def d__law_asked : FD := ⟨3, 5, b__law_asked, [], none⟩
/-- law(_law_script, _law_cell, _law_many, _law_names, _law_tree_here, _law_houses_here, _law_at, _law_body, _law_total, _law_calls, _law_things, _law_j, _law_more, _law_k, _law_asked_here, _law_made, _law_besides, _law_number, _law_counted, _law_name, _law_values, _law_program) -/
def b_law : B :=
  (.cons (.asg (.nm 1) (.call n__law_mixed (.cons (.call n__law_cell_at (.cons (.var 0) (.cons (.int 0) .nil))) (.cons (.int 0) .nil))))
  (.cons (.asg (.nm 2) (.bin .add (.int 2) (.bin .mod (.var 1) (.int 10))))
  (.cons (.asg (.nm 3) (.lc (.bin .add (.str "h") (.idx (.str "abcdefghijkl") (.bin .mod (.bin .add (.var 13) (.bin .fdiv (.var 1) (.int 10))) (.int 12)))) (.nm 13) (.rng1 (.var 2)) .no))
  (.cons (.asg (.nm 4) (.call n__law_tree (.cons (.var 0) (.cons (.var 2) .nil))))
  (.cons (.asg (.nm 5) (.call n__law_houses (.cons (.var 4) (.cons (.var 3) .nil))))
  (.cons (.asg (.nm 6) (.bin .mod (.bin .fdiv (.var 1) (.int 120)) (.bf .len (.cons (.var 5) .nil))))
  (.cons (.asg (.tup (.cons (.nm 7) (.cons (.nm 8) (.cons (.nm 9) (.cons (.nm 10) .nil))))) (.tup (.cons (.tup (.cons (.str "number") (.cons (.int 0) .nil))) (.cons (.int 0) (.cons (.int 0) (.cons (.lst .nil) .nil))))))
  (.cons (.for (.nm 11) (.rng1 (.bin .add (.int 1) (.bin .mod (.bin .fdiv (.var 1) (.int 1500)) (.int 5)))) (.cons (.asg (.nm 12) (.call n__law_mixed (.cons (.call n__law_cell_at (.cons (.var 0) (.cons (.bin .add (.int 13) (.var 11)) .nil))) (.cons (.var 11) .nil))))
  (.cons (.asg (.nm 13) (.bin .mod (.var 12) (.var 2)))
  (.cons (.asg (.tup (.cons (.nm 14) (.cons (.nm 15) (.cons (.nm 16) .nil)))) (.call n__law_asked (.cons (.var 3) (.cons (.bin .mod (.bin .fdiv (.var 12) (.var 2)) (.int 6)) (.cons (.var 13) .nil)))))
  (.cons (.asg (.tup (.cons (.nm 17) (.cons (.nm 18) .nil))) (.call n__law_told (.cons (.var 4) (.cons (.var 13) .nil))))
  (.cons (.asg (.nm 7) (.tup (.cons (.str "two") (.cons (.str "+") (.cons (.tup (.cons (.str "two") (.cons (.str "*") (.cons (.var 7) (.cons (.tup (.cons (.str "number") (.cons (.int 100) .nil))) .nil))))) (.cons (.var 14) .nil))))))
  (.cons (.asg (.nm 8) (.bin .add (.bin .mul (.var 8) (.int 100)) (.var 17)))
  (.cons (.aug 9 .add (.bin .add (.var 18) (.var 16)))
  (.cons (.for (.tup (.cons (.nm 19) (.cons (.nm 20) .nil))) (.seq (.var 15)) (.cons (.ife (.cmp .ne (.var 20) (.tup .nil)) (.cons (.asg (.nm 20) (.tup (.cons (.tup (.cons (.str "thing") (.cons (.bin .add (.bf .len (.cons (.var 10) .nil)) (.var 20)) .nil))) .nil)))
  .nil) .nil)
  (.cons (.exp (.bm .append (.var 10) (.cons (.tup (.cons (.var 19) (.cons (.var 20) .nil))) .nil)))
  .nil)))
  .nil)))))))))
  (.cons (.asg (.nm 21) (.call n_program_of (.cons (.tup (.cons (.bf .tuple1 (.cons (.bin .add (.slc (.var 5) (.so (.var 6)) .no) (.slc (.var 5) .no (.so (.var 6)))) .nil)) (.cons (.tup (.cons (.tup .nil) (.cons (.str "number") (.cons (.var 7) .nil)))) .nil))) .nil)))
  (.cons (.ret (.cmp .eq (.bf .repr1 (.cons (.call n_walked (.cons (.var 21) (.cons (.lst .nil) (.cons (.int 1000) .nil)))) .nil)) (.bf .repr1 (.cons (.tup (.cons (.tup (.cons (.str "value") (.cons (.var 8) .nil))) (.cons (.var 9) (.cons (.var 10) .nil)))) .nil))))
  .nil))))))))))
def d_law : FD := ⟨1, 22, b_law, [], none⟩
/-- Guest.at_number(self, term) -/
def b_Guest_at_number : B :=
  (.cons .rai0
  .nil)
def d_Guest_at_number : FD := ⟨2, 2, b_Guest_at_number, [], none⟩
/-- Guest.at_truth(self, term) -/
def b_Guest_at_truth : B :=
  (.cons .rai0
  .nil)
def d_Guest_at_truth : FD := ⟨2, 2, b_Guest_at_truth, [], none⟩
/-- Guest.at_name(self, term) -/
def b_Guest_at_name : B :=
  (.cons .rai0
  .nil)
def d_Guest_at_name : FD := ⟨2, 2, b_Guest_at_name, [], none⟩
/-- Guest.at_self(self, term) -/
def b_Guest_at_self : B :=
  (.cons .rai0
  .nil)
def d_Guest_at_self : FD := ⟨2, 2, b_Guest_at_self, [], none⟩
/-- Guest.at_new(self, term) -/
def b_Guest_at_new : B :=
  (.cons .rai0
  .nil)
def d_Guest_at_new : FD := ⟨2, 2, b_Guest_at_new, [], none⟩
/-- Guest.at_elder(self, term) -/
def b_Guest_at_elder : B :=
  (.cons .rai0
  .nil)
def d_Guest_at_elder : FD := ⟨2, 2, b_Guest_at_elder, [], none⟩
/-- Guest.at_field(self, term) -/
def b_Guest_at_field : B :=
  (.cons .rai0
  .nil)
def d_Guest_at_field : FD := ⟨2, 2, b_Guest_at_field, [], none⟩
/-- Guest.at_call(self, term) -/
def b_Guest_at_call : B :=
  (.cons .rai0
  .nil)
def d_Guest_at_call : FD := ⟨2, 2, b_Guest_at_call, [], none⟩
/-- Guest.at_not(self, term) -/
def b_Guest_at_not : B :=
  (.cons .rai0
  .nil)
def d_Guest_at_not : FD := ⟨2, 2, b_Guest_at_not, [], none⟩
/-- Guest.at_two(self, term) -/
def b_Guest_at_two : B :=
  (.cons .rai0
  .nil)
def d_Guest_at_two : FD := ⟨2, 2, b_Guest_at_two, [], none⟩
/-- Guest.at_if(self, term) -/
def b_Guest_at_if : B :=
  (.cons .rai0
  .nil)
def d_Guest_at_if : FD := ⟨2, 2, b_Guest_at_if, [], none⟩
/-- Guest.at_let(self, term) -/
def b_Guest_at_let : B :=
  (.cons .rai0
  .nil)
def d_Guest_at_let : FD := ⟨2, 2, b_Guest_at_let, [], none⟩
/-- Guest.at_set(self, term) -/
def b_Guest_at_set : B :=
  (.cons .rai0
  .nil)
def d_Guest_at_set : FD := ⟨2, 2, b_Guest_at_set, [], none⟩
/-- Hall.__init__(self, program, name, elder, fields, told, word) -/
def b_Hall___init__ : B :=
  (.cons (.asg (.attr (.var 0) n_order) (.lst .nil))
  (.cons (.asg (.attr (.var 0) n_above) .dic0)
  (.cons (.asg (.attr (.var 0) n_own) .dic0)
  (.cons (.asg (.attr (.var 0) n_heads) .dic0)
  (.cons (.for (.tup (.cons (.nm 2) (.cons (.nm 3) (.cons (.nm 4) (.cons (.nm 5) .nil))))) (.seq (.attr (.var 1) n_houses_told)) (.cons (.exp (.bm .append (.attr (.var 0) n_order) (.cons (.var 2) .nil)))
  (.cons (.asg (.sub (.attr (.var 0) n_above) (.var 2)) (.var 3))
  (.cons (.asg (.sub (.attr (.var 0) n_own) (.var 2)) (.bf .list1 (.cons (.var 4) .nil)))
  (.cons (.asg (.sub (.attr (.var 0) n_heads) (.var 2)) (.lc (.tup (.cons (.idx (.var 6) (.int 0)) (.cons (.idx (.var 6) (.int 1)) (.cons (.idx (.var 6) (.int 2)) .nil)))) (.nm 6) (.seq (.var 5)) .no))
  .nil)))))
  .nil)))))
def d_Hall___init__ : FD := ⟨2, 7, b_Hall___init__, [], none⟩
/-- Hall.houses(self) -/
def b_Hall_houses : B :=
  (.cons (.ret (.bf .list1 (.cons (.attr (.var 0) n_order) .nil)))
  .nil)
def d_Hall_houses : FD := ⟨1, 1, b_Hall_houses, [], none⟩
/-- Hall.elders(self, house, found, one) -/
def b_Hall_elders : B :=
  (.cons (.asg (.nm 2) (.lst .nil))
  (.cons (.asg (.nm 3) (.idx (.attr (.var 0) n_above) (.var 1)))
  (.cons (.whl (.cmp .notN (.var 3) .non) (.cons (.exp (.bm .append (.var 2) (.cons (.var 3) .nil)))
  (.cons (.asg (.nm 3) (.idx (.attr (.var 0) n_above) (.var 3)))
  .nil)))
  (.cons (.ret (.var 2))
  .nil))))
def d_Hall_elders : FD := ⟨2, 4, b_Hall_elders, [], none⟩
/-- Hall.younger(self, house) -/
def b_Hall_younger : B :=
  (.cons (.exp (.call n__wall (.cons (.int 0) .nil)))
  .nil)
def d_Hall_younger : FD := ⟨2, 2, b_Hall_younger, [], none⟩
/-- Hall.fields(self, house, found, one) -/
def b_Hall_fields : B :=
  (.cons (.asg (.nm 2) (.lst .nil))
  (.cons (.for (.nm 3) (.rev (.bin .add (.lst (.cons (.var 1) .nil)) (.meth (.var 0) n_elders (.cons (.var 1) .nil)))) (.cons (.exp (.bm .extend (.var 2) (.cons (.idx (.attr (.var 0) n_own) (.var 3)) .nil)))
  .nil))
  (.cons (.ret (.var 2))
  .nil)))
def d_Hall_fields : FD := ⟨2, 4, b_Hall_fields, [], none⟩
/-- Hall.place(self, house, field, spot, row) -/
def b_Hall_place : B :=
  (.cons (.for (.tup (.cons (.nm 3) (.cons (.nm 4) .nil))) (.enu (.meth (.var 0) n_fields (.cons (.var 1) .nil))) (.cons (.ife (.cmp .eq (.idx (.var 4) (.int 0)) (.var 2)) (.cons (.ret (.var 3))
  .nil) .nil)
  .nil))
  (.cons (.ret .non)
  .nil))
def d_Hall_place : FD := ⟨3, 5, b_Hall_place, [], none⟩
/-- Hall.found(self, house, word, one, number, row) -/
def b_Hall_found : B :=
  (.cons (.for (.nm 3) (.seq (.bin .add (.lst (.cons (.var 1) .nil)) (.meth (.var 0) n_elders (.cons (.var 1) .nil)))) (.cons (.for (.tup (.cons (.nm 4) (.cons (.nm 5) .nil))) (.enu (.idx (.attr (.var 0) n_heads) (.var 3))) (.cons (.ife (.cmp .eq (.idx (.var 5) (.int 0)) (.var 2)) (.cons (.ret (.tup (.cons (.var 3) (.cons (.var 4) .nil))))
  .nil) .nil)
  .nil))
  .nil))
  (.cons (.ret .non)
  .nil))
def d_Hall_found : FD := ⟨3, 6, b_Hall_found, [], none⟩
/-- Hall.head(self, house, word) -/
def b_Hall_head : B :=
  (.cons (.exp (.call n__wall (.cons (.int 1) .nil)))
  .nil)
def d_Hall_head : FD := ⟨3, 3, b_Hall_head, [], none⟩
/-- Wait.goes_on(self, walk, value) -/
def b_Wait_goes_on : B :=
  (.cons .rai0
  .nil)
def d_Wait_goes_on : FD := ⟨3, 3, b_Wait_goes_on, [], none⟩
/-- GatherWait.__init__(self, terms) -/
def b_GatherWait___init__ : B :=
  (.cons (.asg (.attr (.var 0) n_left) (.bf .list1 (.cons (.var 1) .nil)))
  (.cons (.asg (.attr (.var 0) n_known) (.lst .nil))
  .nil))
def d_GatherWait___init__ : FD := ⟨2, 2, b_GatherWait___init__, [], none⟩
/-- GatherWait.begins(self, walk) -/
def b_GatherWait_begins : B :=
  (.cons (.ife (.cmp .eq (.attr (.var 0) n_left) (.lst .nil)) (.cons (.exp (.meth (.var 0) n_gathered (.cons (.var 1) .nil)))
  .nil) (.cons (.exp (.bm .append (.attr (.var 1) n_waiting) (.cons (.var 0) .nil)))
  (.cons (.asg (.attr (.var 1) n_due) (.bm .pop1 (.attr (.var 0) n_left) (.cons (.int 0) .nil)))
  .nil)))
  .nil)
def d_GatherWait_begins : FD := ⟨2, 2, b_GatherWait_begins, [], none⟩
/-- GatherWait.goes_on(self, walk, value) -/
def b_GatherWait_goes_on : B :=
  (.cons (.exp (.bm .append (.attr (.var 0) n_known) (.cons (.var 2) .nil)))
  (.cons (.exp (.meth (.var 0) n_begins (.cons (.var 1) .nil)))
  .nil))
def d_GatherWait_goes_on : FD := ⟨3, 3, b_GatherWait_goes_on, [], none⟩
/-- GatherWait.gathered(self, walk) -/
def b_GatherWait_gathered : B :=
  (.cons .rai0
  .nil)
def d_GatherWait_gathered : FD := ⟨2, 2, b_GatherWait_gathered, [], none⟩
/-- NewWait.__init__(self, term) -/
def b_NewWait___init__ : B :=
  (.cons (.exp (.ini n_GatherWait (.cons (.var 0) (.cons (.meth (.var 1) n_parts .nil) .nil))))
  (.cons (.asg (.attr (.var 0) n_called) (.attr (.var 1) n_called))
  .nil))
def d_NewWait___init__ : FD := ⟨2, 2, b_NewWait___init__, [], none⟩
/-- NewWait.gathered(self, walk) -/
def b_NewWait_gathered : B :=
  (.cons (.asg (.attr (.var 1) n_got) (.tup (.cons (.str "thing") (.cons (.bf .len (.cons (.attr (.var 1) n_made) .nil)) .nil))))
  (.cons (.exp (.bm .append (.attr (.var 1) n_made) (.cons (.tup (.cons (.attr (.var 0) n_called) (.cons (.bf .tuple1 (.cons (.attr (.var 0) n_known) .nil)) .nil))) .nil)))
  .nil))
def d_NewWait_gathered : FD := ⟨2, 2, b_NewWait_gathered, [], none⟩
/-- CallWait.__init__(self, term) -/
def b_CallWait___init__ : B :=
  (.cons (.exp (.ini n_GatherWait (.cons (.var 0) (.cons (.meth (.var 1) n_parts .nil) .nil))))
  (.cons (.asg (.attr (.var 0) n_called) (.attr (.var 1) n_called))
  .nil))
def d_CallWait___init__ : FD := ⟨2, 2, b_CallWait___init__, [], none⟩
/-- CallWait.gathered(self, walk, thing, spot) -/
def b_CallWait_gathered : B :=
  (.cons (.asg (.nm 2) (.idx (.attr (.var 0) n_known) (.int 0)))
  (.cons (.asg (.nm 3) (.meth (.attr (.var 1) n_hall) n_found (.cons (.idx (.idx (.attr (.var 1) n_made) (.idx (.var 2) (.int 1))) (.int 0)) (.cons (.attr (.var 0) n_called) .nil))))
  (.cons (.exp (.meth (.var 1) n_enter (.cons (.var 3) (.cons (.var 2) (.cons (.slc (.attr (.var 0) n_known) (.so (.int 1)) .no) .nil)))))
  .nil)))
def d_CallWait_gathered : FD := ⟨2, 4, b_CallWait_gathered, [], none⟩
/-- ElderWait.__init__(self, term) -/
def b_ElderWait___init__ : B :=
  (.cons (.exp (.ini n_GatherWait (.cons (.var 0) (.cons (.meth (.var 1) n_parts .nil) .nil))))
  (.cons (.asg (.attr (.var 0) n_called) (.attr (.var 1) n_called))
  .nil))
def d_ElderWait___init__ : FD := ⟨2, 2, b_ElderWait___init__, [], none⟩
/-- ElderWait.gathered(self, walk, elder) -/
def b_ElderWait_gathered : B :=
  (.cons (.asg (.nm 2) (.idx (.meth (.attr (.var 1) n_hall) n_elders (.cons (.attr (.var 1) n_home) .nil)) (.int 0)))
  (.cons (.exp (.meth (.var 1) n_enter (.cons (.meth (.attr (.var 1) n_hall) n_found (.cons (.var 2) (.cons (.attr (.var 0) n_called) .nil))) (.cons (.attr (.var 1) n_own) (.cons (.attr (.var 0) n_known) .nil)))))
  .nil))
def d_ElderWait_gathered : FD := ⟨2, 3, b_ElderWait_gathered, [], none⟩
/-- TwoWait.__init__(self, term) -/
def b_TwoWait___init__ : B :=
  (.cons (.exp (.ini n_GatherWait (.cons (.var 0) (.cons (.meth (.var 1) n_parts .nil) .nil))))
  (.cons (.asg (.attr (.var 0) n_sign) (.attr (.var 1) n_sign))
  .nil))
def d_TwoWait___init__ : FD := ⟨2, 2, b_TwoWait___init__, [], none⟩
/-- TwoWait.gathered(self, walk, one, other, word, found) -/
def b_TwoWait_gathered : B :=
  (.cons (.asg (.tup (.cons (.nm 2) (.cons (.nm 3) .nil))) (.attr (.var 0) n_known))
  (.cons (.ife (.cmp .eq (.attr (.var 0) n_sign) (.str ";")) (.cons (.asg (.attr (.var 1) n_got) (.var 3))
  .nil) (.cons (.ife (.cmp .eq (.attr (.var 0) n_sign) (.str "=")) (.cons (.asg (.attr (.var 1) n_got) (.cmp .eq (.var 2) (.var 3)))
  .nil) (.cons (.asg (.tup (.cons (.nm 4) (.cons (.nm 5) .nil))) (.call n_two_told (.cons (.attr (.var 0) n_sign) (.cons (.var 2) (.cons (.var 3) .nil)))))
  (.cons (.ife (.cmp .eq (.var 4) (.str "refused")) (.cons (.asg (.attr (.var 1) n_ended) (.tup (.cons (.var 4) (.cons (.var 5) .nil))))
  .nil) .nil)
  (.cons (.asg (.attr (.var 1) n_got) (.var 5))
  .nil))))
  .nil))
  .nil))
def d_TwoWait_gathered : FD := ⟨2, 6, b_TwoWait_gathered, [], none⟩
/-- SetWait.__init__(self, term) -/
def b_SetWait___init__ : B :=
  (.cons (.exp (.ini n_GatherWait (.cons (.var 0) (.cons (.meth (.var 1) n_parts .nil) .nil))))
  (.cons (.asg (.attr (.var 0) n_called) (.attr (.var 1) n_called))
  .nil))
def d_SetWait___init__ : FD := ⟨2, 2, b_SetWait___init__, [], none⟩
/-- SetWait.gathered(self, walk, thing, value, house, held, at) -/
def b_SetWait_gathered : B :=
  (.cons (.asg (.tup (.cons (.nm 2) (.cons (.nm 3) .nil))) (.attr (.var 0) n_known))
  (.cons (.asg (.tup (.cons (.nm 4) (.cons (.nm 5) .nil))) (.idx (.attr (.var 1) n_made) (.idx (.var 2) (.int 1))))
  (.cons (.asg (.nm 6) (.meth (.attr (.var 1) n_hall) n_place (.cons (.var 4) (.cons (.attr (.var 0) n_called) .nil))))
  (.cons (.asg (.sub (.attr (.var 1) n_made) (.idx (.var 2) (.int 1))) (.tup (.cons (.var 4) (.cons (.bin .add (.bin .add (.slc (.var 5) .no (.so (.var 6))) (.tup (.cons (.var 3) .nil))) (.slc (.var 5) (.so (.bin .add (.var 6) (.int 1))) .no)) .nil))))
  (.cons (.asg (.attr (.var 1) n_got) (.var 3))
  .nil)))))
def d_SetWait_gathered : FD := ⟨2, 7, b_SetWait_gathered, [], none⟩
/-- FieldWait.__init__(self, called) -/
def b_FieldWait___init__ : B :=
  (.cons (.asg (.attr (.var 0) n_called) (.var 1))
  .nil)
def d_FieldWait___init__ : FD := ⟨2, 2, b_FieldWait___init__, [], none⟩
/-- FieldWait.goes_on(self, walk, value, house, held) -/
def b_FieldWait_goes_on : B :=
  (.cons (.asg (.tup (.cons (.nm 3) (.cons (.nm 4) .nil))) (.idx (.attr (.var 1) n_made) (.idx (.var 2) (.int 1))))
  (.cons (.asg (.attr (.var 1) n_got) (.idx (.var 4) (.meth (.attr (.var 1) n_hall) n_place (.cons (.var 3) (.cons (.attr (.var 0) n_called) .nil)))))
  .nil))
def d_FieldWait_goes_on : FD := ⟨3, 5, b_FieldWait_goes_on, [], none⟩
/-- NotWait.goes_on(self, walk, value) -/
def b_NotWait_goes_on : B :=
  (.cons (.asg (.attr (.var 1) n_got) (.nt (.var 2)))
  .nil)
def d_NotWait_goes_on : FD := ⟨3, 3, b_NotWait_goes_on, [], none⟩
/-- IfWait.__init__(self, other, third) -/
def b_IfWait___init__ : B :=
  (.cons (.asg (.attr (.var 0) n_other) (.var 1))
  (.cons (.asg (.attr (.var 0) n_third) (.var 2))
  .nil))
def d_IfWait___init__ : FD := ⟨3, 3, b_IfWait___init__, [], none⟩
/-- IfWait.goes_on(self, walk, value) -/
def b_IfWait_goes_on : B :=
  (.cons (.asg (.attr (.var 1) n_due) (.ite (.v (.var 2)) (.attr (.var 0) n_other) (.attr (.var 0) n_third)))
  .nil)
def d_IfWait_goes_on : FD := ⟨3, 3, b_IfWait_goes_on, [], none⟩
/-- LetWait.__init__(self, called, other) -/
def b_LetWait___init__ : B :=
  (.cons (.asg (.attr (.var 0) n_called) (.var 1))
  (.cons (.asg (.attr (.var 0) n_other) (.var 2))
  .nil))
def d_LetWait___init__ : FD := ⟨3, 3, b_LetWait___init__, [], none⟩
/-- LetWait.goes_on(self, walk, value) -/
def b_LetWait_goes_on : B :=
  (.cons (.exp (.bm .append (.attr (.var 1) n_waiting) (.cons (.mk n_LooseWait (.cons (.attr (.var 1) n_bound) .nil)) .nil)))
  (.cons (.asg (.attr (.var 1) n_bound) (.bin .add (.attr (.var 1) n_bound) (.lst (.cons (.tup (.cons (.attr (.var 0) n_called) (.cons (.var 2) .nil))) .nil))))
  (.cons (.asg (.attr (.var 1) n_due) (.attr (.var 0) n_other))
  .nil)))
def d_LetWait_goes_on : FD := ⟨3, 3, b_LetWait_goes_on, [], none⟩
/-- LooseWait.__init__(self, bound) -/
def b_LooseWait___init__ : B :=
  (.cons (.asg (.attr (.var 0) n_bound) (.var 1))
  .nil)
def d_LooseWait___init__ : FD := ⟨2, 2, b_LooseWait___init__, [], none⟩
/-- LooseWait.goes_on(self, walk, value) -/
def b_LooseWait_goes_on : B :=
  (.cons (.asg (.attr (.var 1) n_bound) (.attr (.var 0) n_bound))
  (.cons (.asg (.attr (.var 1) n_got) (.var 2))
  .nil))
def d_LooseWait_goes_on : FD := ⟨3, 3, b_LooseWait_goes_on, [], none⟩
/-- BackWait.__init__(self, bound, own, home) -/
def b_BackWait___init__ : B :=
  (.cons (.asg (.attr (.var 0) n_bound) (.var 1))
  (.cons (.asg (.attr (.var 0) n_own) (.var 2))
  (.cons (.asg (.attr (.var 0) n_home) (.var 3))
  .nil)))
def d_BackWait___init__ : FD := ⟨4, 4, b_BackWait___init__, [], none⟩
/-- BackWait.goes_on(self, walk, value) -/
def b_BackWait_goes_on : B :=
  (.cons (.asg (.attr (.var 1) n_bound) (.attr (.var 0) n_bound))
  (.cons (.asg (.attr (.var 1) n_own) (.attr (.var 0) n_own))
  (.cons (.asg (.attr (.var 1) n_home) (.attr (.var 0) n_home))
  (.cons (.augF (.var 1) n_open_calls .sub (.int 1))
  (.cons (.asg (.attr (.var 1) n_got) (.var 2))
  .nil)))))
def d_BackWait_goes_on : FD := ⟨3, 3, b_BackWait_goes_on, [], none⟩
/-- Walk.__init__(self, program, most, house) -/
def b_Walk___init__ : B :=
  (.cons (.asg (.attr (.var 0) n_hall) (.mk n_Hall (.cons (.var 1) .nil)))
  (.cons (.asg (.attr (.var 0) n_words_by) (.bf .dict1 (.cons (.lc (.tup (.cons (.idx (.var 3) (.int 0)) (.cons (.idx (.var 3) (.int 3)) .nil))) (.nm 3) (.seq (.attr (.var 1) n_houses_told)) .no) .nil)))
  (.cons (.asg (.attr (.var 0) n_most) (.var 2))
  (.cons (.asg (.attr (.var 0) n_made) (.lst .nil))
  (.cons (.asg (.attr (.var 0) n_counted) (.int 0))
  (.cons (.asg (.attr (.var 0) n_open_calls) (.int 0))
  (.cons (.asg (.attr (.var 0) n_waiting) (.lst .nil))
  (.cons (.asg (.attr (.var 0) n_bound) (.lst .nil))
  (.cons (.asg (.attr (.var 0) n_own) .non)
  (.cons (.asg (.attr (.var 0) n_home) .non)
  (.cons (.asg (.attr (.var 0) n_due) .non)
  (.cons (.asg (.attr (.var 0) n_got) .non)
  (.cons (.asg (.attr (.var 0) n_ended) .non)
  .nil)))))))))))))
def d_Walk___init__ : FD := ⟨3, 4, b_Walk___init__, [], none⟩
/-- Walk.at_number(self, term) -/
def b_Walk_at_number : B :=
  (.cons (.asg (.attr (.var 0) n_got) (.attr (.var 1) n_number))
  .nil)
def d_Walk_at_number : FD := ⟨2, 2, b_Walk_at_number, [], none⟩
/-- Walk.at_truth(self, term) -/
def b_Walk_at_truth : B :=
  (.cons (.asg (.attr (.var 0) n_got) (.attr (.var 1) n_is_yes))
  .nil)
def d_Walk_at_truth : FD := ⟨2, 2, b_Walk_at_truth, [], none⟩
/-- Walk.at_name(self, term, called, value) -/
def b_Walk_at_name : B :=
  (.cons (.for (.tup (.cons (.nm 2) (.cons (.nm 3) .nil))) (.seq (.attr (.var 0) n_bound)) (.cons (.ife (.cmp .eq (.var 2) (.attr (.var 1) n_called)) (.cons (.asg (.attr (.var 0) n_got) (.var 3))
  .nil) .nil)
  .nil))
  .nil)
def d_Walk_at_name : FD := ⟨2, 4, b_Walk_at_name, [], none⟩
/-- Walk.at_self(self, term) -/
def b_Walk_at_self : B :=
  (.cons (.asg (.attr (.var 0) n_got) (.attr (.var 0) n_own))
  .nil)
def d_Walk_at_self : FD := ⟨2, 2, b_Walk_at_self, [], none⟩
/-- Walk.at_new(self, term) -/
def b_Walk_at_new : B :=
  (.cons (.exp (.meth (.mk n_NewWait (.cons (.var 1) .nil)) n_begins (.cons (.var 0) .nil)))
  .nil)
def d_Walk_at_new : FD := ⟨2, 2, b_Walk_at_new, [], none⟩
/-- Walk.at_elder(self, term) -/
def b_Walk_at_elder : B :=
  (.cons (.exp (.meth (.mk n_ElderWait (.cons (.var 1) .nil)) n_begins (.cons (.var 0) .nil)))
  .nil)
def d_Walk_at_elder : FD := ⟨2, 2, b_Walk_at_elder, [], none⟩
/-- Walk.at_call(self, term) -/
def b_Walk_at_call : B :=
  (.cons (.exp (.meth (.mk n_CallWait (.cons (.var 1) .nil)) n_begins (.cons (.var 0) .nil)))
  .nil)
def d_Walk_at_call : FD := ⟨2, 2, b_Walk_at_call, [], none⟩
/-- Walk.at_two(self, term) -/
def b_Walk_at_two : B :=
  (.cons (.exp (.meth (.mk n_TwoWait (.cons (.var 1) .nil)) n_begins (.cons (.var 0) .nil)))
  .nil)
def d_Walk_at_two : FD := ⟨2, 2, b_Walk_at_two, [], none⟩
/-- Walk.at_set(self, term) -/
def b_Walk_at_set : B :=
  (.cons (.exp (.meth (.mk n_SetWait (.cons (.var 1) .nil)) n_begins (.cons (.var 0) .nil)))
  .nil)
def d_Walk_at_set : FD := ⟨2, 2, b_Walk_at_set, [], none⟩
/-- Walk.at_field(self, term) -/
def b_Walk_at_field : B :=
  (.cons (.exp (.bm .append (.attr (.var 0) n_waiting) (.cons (.mk n_FieldWait (.cons (.attr (.var 1) n_called) .nil)) .nil)))
  (.cons (.asg (.attr (.var 0) n_due) (.attr (.var 1) n_thing))
  .nil))
def d_Walk_at_field : FD := ⟨2, 2, b_Walk_at_field, [], none⟩
/-- Walk.at_not(self, term) -/
def b_Walk_at_not : B :=
  (.cons (.exp (.bm .append (.attr (.var 0) n_waiting) (.cons (.mk0 n_NotWait) .nil)))
  (.cons (.asg (.attr (.var 0) n_due) (.attr (.var 1) n_one))
  .nil))
def d_Walk_at_not : FD := ⟨2, 2, b_Walk_at_not, [], none⟩
/-- Walk.at_if(self, term) -/
def b_Walk_at_if : B :=
  (.cons (.exp (.bm .append (.attr (.var 0) n_waiting) (.cons (.mk n_IfWait (.cons (.attr (.var 1) n_other) (.cons (.attr (.var 1) n_third) .nil))) .nil)))
  (.cons (.asg (.attr (.var 0) n_due) (.attr (.var 1) n_one))
  .nil))
def d_Walk_at_if : FD := ⟨2, 2, b_Walk_at_if, [], none⟩
/-- Walk.at_let(self, term) -/
def b_Walk_at_let : B :=
  (.cons (.exp (.bm .append (.attr (.var 0) n_waiting) (.cons (.mk n_LetWait (.cons (.attr (.var 1) n_called) (.cons (.attr (.var 1) n_other) .nil))) .nil)))
  (.cons (.asg (.attr (.var 0) n_due) (.attr (.var 1) n_one))
  .nil))
def d_Walk_at_let : FD := ⟨2, 2, b_Walk_at_let, [], none⟩
/-- Walk.enter(self, spot, own, values, word, param, value) -/
def b_Walk_enter : B :=
  (.cons (.ife (.cmp .eq (.attr (.var 0) n_counted) (.attr (.var 0) n_most)) (.cons (.asg (.attr (.var 0) n_ended) (.tup (.cons (.str "dry") .nil)))
  (.cons .retN
  .nil)) .nil)
  (.cons (.augF (.var 0) n_counted .add (.int 1))
  (.cons (.ife (.cmp .eq (.attr (.var 0) n_open_calls) (.glob n_MOST_OPEN)) (.cons (.asg (.attr (.var 0) n_ended) (.tup (.cons (.str "deep") .nil)))
  .nil) (.cons (.asg (.nm 4) (.idx (.idx (.attr (.var 0) n_words_by) (.idx (.var 1) (.int 0))) (.idx (.var 1) (.int 1))))
  (.cons (.exp (.bm .append (.attr (.var 0) n_waiting) (.cons (.mk n_BackWait (.cons (.attr (.var 0) n_bound) (.cons (.attr (.var 0) n_own) (.cons (.attr (.var 0) n_home) .nil)))) .nil)))
  (.cons (.augF (.var 0) n_open_calls .add (.int 1))
  (.cons (.asg (.attr (.var 0) n_bound) (.lc (.tup (.cons (.idx (.var 5) (.int 0)) (.cons (.var 6) .nil))) (.tup (.cons (.nm 5) (.cons (.nm 6) .nil))) (.zip2 (.idx (.var 4) (.int 1)) (.var 3)) .no))
  (.cons (.asg (.attr (.var 0) n_own) (.var 2))
  (.cons (.asg (.attr (.var 0) n_home) (.idx (.var 1) (.int 0)))
  (.cons (.asg (.attr (.var 0) n_due) (.idx (.var 4) (.int 3)))
  .nil))))))))
  .nil)))
def d_Walk_enter : FD := ⟨4, 7, b_Walk_enter, [], none⟩
/-- Walk.goes(self, term) -/
def b_Walk_goes : B :=
  (.cons (.ife (.cmp .notN (.attr (.var 0) n_due) .non) (.cons (.asg (.nm 1) (.attr (.var 0) n_due))
  (.cons (.asg (.attr (.var 0) n_due) .non)
  (.cons (.exp (.meth (.var 1) n_meet (.cons (.var 0) .nil)))
  .nil))) (.cons (.ife (.cmp .ne (.attr (.var 0) n_waiting) (.lst .nil)) (.cons (.exp (.meth (.bm .pop0 (.attr (.var 0) n_waiting) .nil) n_goes_on (.cons (.var 0) (.cons (.attr (.var 0) n_got) .nil))))
  .nil) (.cons (.ife (.v (.isi .isTuple (.attr (.var 0) n_got))) (.cons (.asg (.attr (.var 0) n_ended) (.tup (.cons (.str "thing") (.cons (.idx (.idx (.attr (.var 0) n_made) (.idx (.attr (.var 0) n_got) (.int 1))) (.int 0)) .nil))))
  .nil) (.cons (.asg (.attr (.var 0) n_ended) (.tup (.cons (.str "value") (.cons (.attr (.var 0) n_got) .nil))))
  .nil))
  .nil))
  .nil))
  .nil)
def d_Walk_goes : FD := ⟨1, 2, b_Walk_goes, [], none⟩
/-- Term.__init__(self, inner, part) -/
def b_Term___init__ : B :=
  (.cons (.asg (.attr (.var 0) n_inner) (.bf .list1 (.cons (.var 1) .nil)))
  (.cons (.asg (.attr (.var 0) n_height) (.bin .add (.int 1) (.bf .maxL (.cons (.bin .add (.lc (.attr (.var 2) n_height) (.nm 2) (.seq (.var 1)) .no) (.lst (.cons (.int 0) .nil))) .nil))))
  (.cons (.asg (.attr (.var 0) n_many) (.bin .add (.int 1) (.bf .sumL (.cons (.lc (.attr (.var 2) n_many) (.nm 2) (.seq (.var 1)) .no) .nil))))
  .nil)))
def d_Term___init__ : FD := ⟨2, 3, b_Term___init__, [], none⟩
/-- Term.meet(self, guest) -/
def b_Term_meet : B :=
  (.cons .rai0
  .nil)
def d_Term_meet : FD := ⟨2, 2, b_Term_meet, [], none⟩
/-- Term.plain(self) -/
def b_Term_plain : B :=
  (.cons .rai0
  .nil)
def d_Term_plain : FD := ⟨1, 1, b_Term_plain, [], none⟩
/-- Term.parts(self) -/
def b_Term_parts : B :=
  (.cons (.ret (.bf .list1 (.cons (.attr (.var 0) n_inner) .nil)))
  .nil)
def d_Term_parts : FD := ⟨1, 1, b_Term_parts, [], none⟩
/-- Term.depth(self) -/
def b_Term_depth : B :=
  (.cons (.exp (.call n__wall (.cons (.int 2) .nil)))
  .nil)
def d_Term_depth : FD := ⟨1, 1, b_Term_depth, [], none⟩
/-- Term.size(self) -/
def b_Term_size : B :=
  (.cons (.exp (.call n__wall (.cons (.int 3) .nil)))
  .nil)
def d_Term_size : FD := ⟨1, 1, b_Term_size, [], none⟩
/-- NumberTerm.__init__(self, number) -/
def b_NumberTerm___init__ : B :=
  (.cons (.exp (.ini n_Term (.cons (.var 0) (.cons (.lst .nil) .nil))))
  (.cons (.asg (.attr (.var 0) n_number) (.var 1))
  .nil))
def d_NumberTerm___init__ : FD := ⟨2, 2, b_NumberTerm___init__, [], none⟩
/-- NumberTerm.meet(self, guest) -/
def b_NumberTerm_meet : B :=
  (.cons (.ret (.meth (.var 1) n_at_number (.cons (.var 0) .nil)))
  .nil)
def d_NumberTerm_meet : FD := ⟨2, 2, b_NumberTerm_meet, [], none⟩
/-- NumberTerm.plain(self) -/
def b_NumberTerm_plain : B :=
  (.cons (.ret (.tup (.cons (.str "number") (.cons (.attr (.var 0) n_number) .nil))))
  .nil)
def d_NumberTerm_plain : FD := ⟨1, 1, b_NumberTerm_plain, [], none⟩
/-- TruthTerm.__init__(self, is_yes) -/
def b_TruthTerm___init__ : B :=
  (.cons (.exp (.ini n_Term (.cons (.var 0) (.cons (.lst .nil) .nil))))
  (.cons (.asg (.attr (.var 0) n_is_yes) (.var 1))
  .nil))
def d_TruthTerm___init__ : FD := ⟨2, 2, b_TruthTerm___init__, [], none⟩
/-- TruthTerm.meet(self, guest) -/
def b_TruthTerm_meet : B :=
  (.cons (.ret (.meth (.var 1) n_at_truth (.cons (.var 0) .nil)))
  .nil)
def d_TruthTerm_meet : FD := ⟨2, 2, b_TruthTerm_meet, [], none⟩
/-- TruthTerm.plain(self) -/
def b_TruthTerm_plain : B :=
  (.cons (.ret (.tup (.cons (.str "truth") (.cons (.attr (.var 0) n_is_yes) .nil))))
  .nil)
def d_TruthTerm_plain : FD := ⟨1, 1, b_TruthTerm_plain, [], none⟩
/-- NameTerm.__init__(self, called) -/
def b_NameTerm___init__ : B :=
  (.cons (.exp (.ini n_Term (.cons (.var 0) (.cons (.lst .nil) .nil))))
  (.cons (.asg (.attr (.var 0) n_called) (.var 1))
  .nil))
def d_NameTerm___init__ : FD := ⟨2, 2, b_NameTerm___init__, [], none⟩
/-- NameTerm.meet(self, guest) -/
def b_NameTerm_meet : B :=
  (.cons (.ret (.meth (.var 1) n_at_name (.cons (.var 0) .nil)))
  .nil)
def d_NameTerm_meet : FD := ⟨2, 2, b_NameTerm_meet, [], none⟩
/-- NameTerm.plain(self) -/
def b_NameTerm_plain : B :=
  (.cons (.ret (.tup (.cons (.str "name") (.cons (.attr (.var 0) n_called) .nil))))
  .nil)
def d_NameTerm_plain : FD := ⟨1, 1, b_NameTerm_plain, [], none⟩
/-- SelfTerm.__init__(self) -/
def b_SelfTerm___init__ : B :=
  (.cons (.exp (.ini n_Term (.cons (.var 0) (.cons (.lst .nil) .nil))))
  .nil)
def d_SelfTerm___init__ : FD := ⟨1, 1, b_SelfTerm___init__, [], none⟩
/-- SelfTerm.meet(self, guest) -/
def b_SelfTerm_meet : B :=
  (.cons (.ret (.meth (.var 1) n_at_self (.cons (.var 0) .nil)))
  .nil)
def d_SelfTerm_meet : FD := ⟨2, 2, b_SelfTerm_meet, [], none⟩
/-- SelfTerm.plain(self) -/
def b_SelfTerm_plain : B :=
  (.cons (.ret (.tup (.cons (.str "self") .nil)))
  .nil)
def d_SelfTerm_plain : FD := ⟨1, 1, b_SelfTerm_plain, [], none⟩
/-- NewTerm.__init__(self, called, given) -/
def b_NewTerm___init__ : B :=
  (.cons (.exp (.ini n_Term (.cons (.var 0) (.cons (.var 2) .nil))))
  (.cons (.asg (.attr (.var 0) n_called) (.var 1))
  .nil))
def d_NewTerm___init__ : FD := ⟨3, 3, b_NewTerm___init__, [], none⟩
/-- NewTerm.meet(self, guest) -/
def b_NewTerm_meet : B :=
  (.cons (.ret (.meth (.var 1) n_at_new (.cons (.var 0) .nil)))
  .nil)
def d_NewTerm_meet : FD := ⟨2, 2, b_NewTerm_meet, [], none⟩
/-- NewTerm.plain(self) -/
def b_NewTerm_plain : B :=
  (.cons (.ret (.tup (.cons (.str "new") (.cons (.attr (.var 0) n_called) (.cons (.call n_plains (.cons (.attr (.var 0) n_inner) .nil)) .nil)))))
  .nil)
def d_NewTerm_plain : FD := ⟨1, 1, b_NewTerm_plain, [], none⟩
/-- ElderTerm.__init__(self, called, given) -/
def b_ElderTerm___init__ : B :=
  (.cons (.exp (.ini n_Term (.cons (.var 0) (.cons (.var 2) .nil))))
  (.cons (.asg (.attr (.var 0) n_called) (.var 1))
  .nil))
def d_ElderTerm___init__ : FD := ⟨3, 3, b_ElderTerm___init__, [], none⟩
/-- ElderTerm.meet(self, guest) -/
def b_ElderTerm_meet : B :=
  (.cons (.ret (.meth (.var 1) n_at_elder (.cons (.var 0) .nil)))
  .nil)
def d_ElderTerm_meet : FD := ⟨2, 2, b_ElderTerm_meet, [], none⟩
/-- ElderTerm.plain(self) -/
def b_ElderTerm_plain : B :=
  (.cons (.ret (.tup (.cons (.str "elder") (.cons (.attr (.var 0) n_called) (.cons (.call n_plains (.cons (.attr (.var 0) n_inner) .nil)) .nil)))))
  .nil)
def d_ElderTerm_plain : FD := ⟨1, 1, b_ElderTerm_plain, [], none⟩
/-- FieldTerm.__init__(self, thing, called) -/
def b_FieldTerm___init__ : B :=
  (.cons (.exp (.ini n_Term (.cons (.var 0) (.cons (.lst (.cons (.var 1) .nil)) .nil))))
  (.cons (.asg (.attr (.var 0) n_thing) (.var 1))
  (.cons (.asg (.attr (.var 0) n_called) (.var 2))
  .nil)))
def d_FieldTerm___init__ : FD := ⟨3, 3, b_FieldTerm___init__, [], none⟩
/-- FieldTerm.meet(self, guest) -/
def b_FieldTerm_meet : B :=
  (.cons (.ret (.meth (.var 1) n_at_field (.cons (.var 0) .nil)))
  .nil)
def d_FieldTerm_meet : FD := ⟨2, 2, b_FieldTerm_meet, [], none⟩
/-- FieldTerm.plain(self) -/
def b_FieldTerm_plain : B :=
  (.cons (.ret (.tup (.cons (.str "field") (.cons (.meth (.attr (.var 0) n_thing) n_plain .nil) (.cons (.attr (.var 0) n_called) .nil)))))
  .nil)
def d_FieldTerm_plain : FD := ⟨1, 1, b_FieldTerm_plain, [], none⟩
/-- CallTerm.__init__(self, thing, called, given) -/
def b_CallTerm___init__ : B :=
  (.cons (.exp (.ini n_Term (.cons (.var 0) (.cons (.bin .add (.lst (.cons (.var 1) .nil)) (.bf .list1 (.cons (.var 3) .nil))) .nil))))
  (.cons (.asg (.attr (.var 0) n_thing) (.var 1))
  (.cons (.asg (.attr (.var 0) n_called) (.var 2))
  (.cons (.asg (.attr (.var 0) n_given) (.bf .list1 (.cons (.var 3) .nil)))
  .nil))))
def d_CallTerm___init__ : FD := ⟨4, 4, b_CallTerm___init__, [], none⟩
/-- CallTerm.meet(self, guest) -/
def b_CallTerm_meet : B :=
  (.cons (.ret (.meth (.var 1) n_at_call (.cons (.var 0) .nil)))
  .nil)
def d_CallTerm_meet : FD := ⟨2, 2, b_CallTerm_meet, [], none⟩
/-- CallTerm.plain(self) -/
def b_CallTerm_plain : B :=
  (.cons (.ret (.tup (.cons (.str "call") (.cons (.meth (.attr (.var 0) n_thing) n_plain .nil) (.cons (.attr (.var 0) n_called) (.cons (.call n_plains (.cons (.attr (.var 0) n_given) .nil)) .nil))))))
  .nil)
def d_CallTerm_plain : FD := ⟨1, 1, b_CallTerm_plain, [], none⟩
/-- NotTerm.__init__(self, one) -/
def b_NotTerm___init__ : B :=
  (.cons (.exp (.ini n_Term (.cons (.var 0) (.cons (.lst (.cons (.var 1) .nil)) .nil))))
  (.cons (.asg (.attr (.var 0) n_one) (.var 1))
  .nil))
def d_NotTerm___init__ : FD := ⟨2, 2, b_NotTerm___init__, [], none⟩
/-- NotTerm.meet(self, guest) -/
def b_NotTerm_meet : B :=
  (.cons (.ret (.meth (.var 1) n_at_not (.cons (.var 0) .nil)))
  .nil)
def d_NotTerm_meet : FD := ⟨2, 2, b_NotTerm_meet, [], none⟩
/-- NotTerm.plain(self) -/
def b_NotTerm_plain : B :=
  (.cons (.ret (.tup (.cons (.str "not") (.cons (.meth (.attr (.var 0) n_one) n_plain .nil) .nil))))
  .nil)
def d_NotTerm_plain : FD := ⟨1, 1, b_NotTerm_plain, [], none⟩
/-- TwoTerm.__init__(self, sign, one, other) -/
def b_TwoTerm___init__ : B :=
  (.cons (.exp (.ini n_Term (.cons (.var 0) (.cons (.lst (.cons (.var 2) (.cons (.var 3) .nil))) .nil))))
  (.cons (.asg (.attr (.var 0) n_sign) (.var 1))
  (.cons (.asg (.attr (.var 0) n_one) (.var 2))
  (.cons (.asg (.attr (.var 0) n_other) (.var 3))
  .nil))))
def d_TwoTerm___init__ : FD := ⟨4, 4, b_TwoTerm___init__, [], none⟩
/-- TwoTerm.meet(self, guest) -/
def b_TwoTerm_meet : B :=
  (.cons (.ret (.meth (.var 1) n_at_two (.cons (.var 0) .nil)))
  .nil)
def d_TwoTerm_meet : FD := ⟨2, 2, b_TwoTerm_meet, [], none⟩
/-- TwoTerm.plain(self) -/
def b_TwoTerm_plain : B :=
  (.cons (.ret (.tup (.cons (.str "two") (.cons (.attr (.var 0) n_sign) (.cons (.meth (.attr (.var 0) n_one) n_plain .nil) (.cons (.meth (.attr (.var 0) n_other) n_plain .nil) .nil))))))
  .nil)
def d_TwoTerm_plain : FD := ⟨1, 1, b_TwoTerm_plain, [], none⟩
/-- IfTerm.__init__(self, one, other, third) -/
def b_IfTerm___init__ : B :=
  (.cons (.exp (.ini n_Term (.cons (.var 0) (.cons (.lst (.cons (.var 1) (.cons (.var 2) (.cons (.var 3) .nil)))) .nil))))
  (.cons (.asg (.attr (.var 0) n_one) (.var 1))
  (.cons (.asg (.attr (.var 0) n_other) (.var 2))
  (.cons (.asg (.attr (.var 0) n_third) (.var 3))
  .nil))))
def d_IfTerm___init__ : FD := ⟨4, 4, b_IfTerm___init__, [], none⟩
/-- IfTerm.meet(self, guest) -/
def b_IfTerm_meet : B :=
  (.cons (.ret (.meth (.var 1) n_at_if (.cons (.var 0) .nil)))
  .nil)
def d_IfTerm_meet : FD := ⟨2, 2, b_IfTerm_meet, [], none⟩
/-- IfTerm.plain(self) -/
def b_IfTerm_plain : B :=
  (.cons (.ret (.tup (.cons (.str "if") (.cons (.meth (.attr (.var 0) n_one) n_plain .nil) (.cons (.meth (.attr (.var 0) n_other) n_plain .nil) (.cons (.meth (.attr (.var 0) n_third) n_plain .nil) .nil))))))
  .nil)
def d_IfTerm_plain : FD := ⟨1, 1, b_IfTerm_plain, [], none⟩
/-- LetTerm.__init__(self, called, one, other) -/
def b_LetTerm___init__ : B :=
  (.cons (.exp (.ini n_Term (.cons (.var 0) (.cons (.lst (.cons (.var 2) (.cons (.var 3) .nil))) .nil))))
  (.cons (.asg (.attr (.var 0) n_called) (.var 1))
  (.cons (.asg (.attr (.var 0) n_one) (.var 2))
  (.cons (.asg (.attr (.var 0) n_other) (.var 3))
  .nil))))
def d_LetTerm___init__ : FD := ⟨4, 4, b_LetTerm___init__, [], none⟩
/-- LetTerm.meet(self, guest) -/
def b_LetTerm_meet : B :=
  (.cons (.ret (.meth (.var 1) n_at_let (.cons (.var 0) .nil)))
  .nil)
def d_LetTerm_meet : FD := ⟨2, 2, b_LetTerm_meet, [], none⟩
/-- LetTerm.plain(self) -/
def b_LetTerm_plain : B :=
  (.cons (.ret (.tup (.cons (.str "let") (.cons (.attr (.var 0) n_called) (.cons (.meth (.attr (.var 0) n_one) n_plain .nil) (.cons (.meth (.attr (.var 0) n_other) n_plain .nil) .nil))))))
  .nil)
def d_LetTerm_plain : FD := ⟨1, 1, b_LetTerm_plain, [], none⟩
/-- SetTerm.__init__(self, thing, called, other) -/
def b_SetTerm___init__ : B :=
  (.cons (.exp (.ini n_Term (.cons (.var 0) (.cons (.lst (.cons (.var 1) (.cons (.var 3) .nil))) .nil))))
  (.cons (.asg (.attr (.var 0) n_thing) (.var 1))
  (.cons (.asg (.attr (.var 0) n_called) (.var 2))
  (.cons (.asg (.attr (.var 0) n_other) (.var 3))
  .nil))))
def d_SetTerm___init__ : FD := ⟨4, 4, b_SetTerm___init__, [], none⟩
/-- SetTerm.meet(self, guest) -/
def b_SetTerm_meet : B :=
  (.cons (.ret (.meth (.var 1) n_at_set (.cons (.var 0) .nil)))
  .nil)
def d_SetTerm_meet : FD := ⟨2, 2, b_SetTerm_meet, [], none⟩
/-- SetTerm.plain(self) -/
def b_SetTerm_plain : B :=
  (.cons (.ret (.tup (.cons (.str "set") (.cons (.meth (.attr (.var 0) n_thing) n_plain .nil) (.cons (.attr (.var 0) n_called) (.cons (.meth (.attr (.var 0) n_other) n_plain .nil) .nil))))))
  .nil)
def d_SetTerm_plain : FD := ⟨1, 1, b_SetTerm_plain, [], none⟩
/-- Program.__init__(self, houses_told, main_told) -/
def b_Program___init__ : B :=
  (.cons (.asg (.attr (.var 0) n_houses_told) (.bf .list1 (.cons (.var 1) .nil)))
  (.cons (.asg (.attr (.var 0) n_main_told) (.var 2))
  .nil))
def d_Program___init__ : FD := ⟨3, 3, b_Program___init__, [], none⟩
/-- Program.bodies(self) -/
def b_Program_bodies : B :=
  (.cons (.exp (.call n__wall (.cons (.int 4) .nil)))
  .nil)
def d_Program_bodies : FD := ⟨1, 1, b_Program_bodies, [], none⟩
/-- Program.plain(self, houses, name, elder, fields, told, rows, params, kind, term, word) -/
def b_Program_plain : B :=
  (.cons (.asg (.nm 1) (.lst .nil))
  (.cons (.for (.tup (.cons (.nm 2) (.cons (.nm 3) (.cons (.nm 4) (.cons (.nm 5) .nil))))) (.seq (.attr (.var 0) n_houses_told)) (.cons (.asg (.nm 6) (.bf .tuple1 (.cons (.lc (.tup (.cons (.idx (.var 10) (.int 0)) (.cons (.idx (.var 10) (.int 1)) (.cons (.idx (.var 10) (.int 2)) (.cons (.meth (.idx (.var 10) (.int 3)) n_plain .nil) .nil))))) (.nm 10) (.seq (.var 5)) .no) .nil)))
  (.cons (.exp (.bm .append (.var 1) (.cons (.tup (.cons (.var 2) (.cons (.var 3) (.cons (.var 4) (.cons (.var 6) .nil))))) .nil)))
  .nil)))
  (.cons (.asg (.tup (.cons (.nm 7) (.cons (.nm 8) (.cons (.nm 9) .nil)))) (.attr (.var 0) n_main_told))
  (.cons (.ret (.tup (.cons (.bf .tuple1 (.cons (.var 1) .nil)) (.cons (.tup (.cons (.var 7) (.cons (.var 8) (.cons (.meth (.var 9) n_plain .nil) .nil)))) .nil))))
  .nil))))
def d_Program_plain : FD := ⟨1, 11, b_Program_plain, [], none⟩
def fdsT : List (Nat × FD) := [(n__wall, d__wall), (n_within, d_within), (n_two_told, d_two_told), (n_walked, d_walked), (n_plains, d_plains), (n_leaf_of, d_leaf_of), (n_thing_term_of, d_thing_term_of), (n_term_of, d_term_of), (n_program_of, d_program_of), (n__law_cell_at, d__law_cell_at), (n__law_mixed, d__law_mixed), (n__law_tree, d__law_tree), (n__law_told, d__law_told), (n__law_houses, d__law_houses), (n__law_asked, d__law_asked), (n_law, d_law), (n_Guest_at_number, d_Guest_at_number), (n_Guest_at_truth, d_Guest_at_truth), (n_Guest_at_name, d_Guest_at_name), (n_Guest_at_self, d_Guest_at_self), (n_Guest_at_new, d_Guest_at_new), (n_Guest_at_elder, d_Guest_at_elder), (n_Guest_at_field, d_Guest_at_field), (n_Guest_at_call, d_Guest_at_call), (n_Guest_at_not, d_Guest_at_not), (n_Guest_at_two, d_Guest_at_two), (n_Guest_at_if, d_Guest_at_if), (n_Guest_at_let, d_Guest_at_let), (n_Guest_at_set, d_Guest_at_set), (n_Hall___init__, d_Hall___init__), (n_Hall_houses, d_Hall_houses), (n_Hall_elders, d_Hall_elders), (n_Hall_younger, d_Hall_younger), (n_Hall_fields, d_Hall_fields), (n_Hall_place, d_Hall_place), (n_Hall_found, d_Hall_found), (n_Hall_head, d_Hall_head), (n_Wait_goes_on, d_Wait_goes_on), (n_GatherWait___init__, d_GatherWait___init__), (n_GatherWait_begins, d_GatherWait_begins), (n_GatherWait_goes_on, d_GatherWait_goes_on), (n_GatherWait_gathered, d_GatherWait_gathered), (n_NewWait___init__, d_NewWait___init__), (n_NewWait_gathered, d_NewWait_gathered), (n_CallWait___init__, d_CallWait___init__), (n_CallWait_gathered, d_CallWait_gathered), (n_ElderWait___init__, d_ElderWait___init__), (n_ElderWait_gathered, d_ElderWait_gathered), (n_TwoWait___init__, d_TwoWait___init__), (n_TwoWait_gathered, d_TwoWait_gathered), (n_SetWait___init__, d_SetWait___init__), (n_SetWait_gathered, d_SetWait_gathered), (n_FieldWait___init__, d_FieldWait___init__), (n_FieldWait_goes_on, d_FieldWait_goes_on), (n_NotWait_goes_on, d_NotWait_goes_on), (n_IfWait___init__, d_IfWait___init__), (n_IfWait_goes_on, d_IfWait_goes_on), (n_LetWait___init__, d_LetWait___init__), (n_LetWait_goes_on, d_LetWait_goes_on), (n_LooseWait___init__, d_LooseWait___init__), (n_LooseWait_goes_on, d_LooseWait_goes_on), (n_BackWait___init__, d_BackWait___init__), (n_BackWait_goes_on, d_BackWait_goes_on), (n_Walk___init__, d_Walk___init__), (n_Walk_at_number, d_Walk_at_number), (n_Walk_at_truth, d_Walk_at_truth), (n_Walk_at_name, d_Walk_at_name), (n_Walk_at_self, d_Walk_at_self), (n_Walk_at_new, d_Walk_at_new), (n_Walk_at_elder, d_Walk_at_elder), (n_Walk_at_call, d_Walk_at_call), (n_Walk_at_two, d_Walk_at_two), (n_Walk_at_set, d_Walk_at_set), (n_Walk_at_field, d_Walk_at_field), (n_Walk_at_not, d_Walk_at_not), (n_Walk_at_if, d_Walk_at_if), (n_Walk_at_let, d_Walk_at_let), (n_Walk_enter, d_Walk_enter), (n_Walk_goes, d_Walk_goes), (n_Term___init__, d_Term___init__), (n_Term_meet, d_Term_meet), (n_Term_plain, d_Term_plain), (n_Term_parts, d_Term_parts), (n_Term_depth, d_Term_depth), (n_Term_size, d_Term_size), (n_NumberTerm___init__, d_NumberTerm___init__), (n_NumberTerm_meet, d_NumberTerm_meet), (n_NumberTerm_plain, d_NumberTerm_plain), (n_TruthTerm___init__, d_TruthTerm___init__), (n_TruthTerm_meet, d_TruthTerm_meet), (n_TruthTerm_plain, d_TruthTerm_plain), (n_NameTerm___init__, d_NameTerm___init__), (n_NameTerm_meet, d_NameTerm_meet), (n_NameTerm_plain, d_NameTerm_plain), (n_SelfTerm___init__, d_SelfTerm___init__), (n_SelfTerm_meet, d_SelfTerm_meet), (n_SelfTerm_plain, d_SelfTerm_plain), (n_NewTerm___init__, d_NewTerm___init__), (n_NewTerm_meet, d_NewTerm_meet), (n_NewTerm_plain, d_NewTerm_plain), (n_ElderTerm___init__, d_ElderTerm___init__), (n_ElderTerm_meet, d_ElderTerm_meet), (n_ElderTerm_plain, d_ElderTerm_plain), (n_FieldTerm___init__, d_FieldTerm___init__), (n_FieldTerm_meet, d_FieldTerm_meet), (n_FieldTerm_plain, d_FieldTerm_plain), (n_CallTerm___init__, d_CallTerm___init__), (n_CallTerm_meet, d_CallTerm_meet), (n_CallTerm_plain, d_CallTerm_plain), (n_NotTerm___init__, d_NotTerm___init__), (n_NotTerm_meet, d_NotTerm_meet), (n_NotTerm_plain, d_NotTerm_plain), (n_TwoTerm___init__, d_TwoTerm___init__), (n_TwoTerm_meet, d_TwoTerm_meet), (n_TwoTerm_plain, d_TwoTerm_plain), (n_IfTerm___init__, d_IfTerm___init__), (n_IfTerm_meet, d_IfTerm_meet), (n_IfTerm_plain, d_IfTerm_plain), (n_LetTerm___init__, d_LetTerm___init__), (n_LetTerm_meet, d_LetTerm_meet), (n_LetTerm_plain, d_LetTerm_plain), (n_SetTerm___init__, d_SetTerm___init__), (n_SetTerm_meet, d_SetTerm_meet), (n_SetTerm_plain, d_SetTerm_plain), (n_Program___init__, d_Program___init__), (n_Program_bodies, d_Program_bodies), (n_Program_plain, d_Program_plain)]
def conT : List (Nat × PV) := [(n_GREATEST, (.int 1000000000000000)), (n_MOST_OPEN, (.int 40))]
def cdsT : List (Nat × CD) := [(n_Hall, ⟨n_Hall___init__, [(n_houses, n_Hall_houses), (n_elders, n_Hall_elders), (n_younger, n_Hall_younger), (n_fields, n_Hall_fields), (n_place, n_Hall_place), (n_found, n_Hall_found), (n_head, n_Hall_head)], [n_order, n_above, n_own, n_heads], false, false⟩),
  (n_GatherWait, ⟨n_GatherWait___init__, [(n_goes_on, n_GatherWait_goes_on), (n_begins, n_GatherWait_begins), (n_gathered, n_GatherWait_gathered)], [n_left, n_known], true, false⟩),
  (n_NewWait, ⟨n_NewWait___init__, [(n_goes_on, n_GatherWait_goes_on), (n_begins, n_GatherWait_begins), (n_gathered, n_NewWait_gathered)], [n_left, n_known, n_called], false, false⟩),
  (n_CallWait, ⟨n_CallWait___init__, [(n_goes_on, n_GatherWait_goes_on), (n_begins, n_GatherWait_begins), (n_gathered, n_CallWait_gathered)], [n_left, n_known, n_called], false, false⟩),
  (n_ElderWait, ⟨n_ElderWait___init__, [(n_goes_on, n_GatherWait_goes_on), (n_begins, n_GatherWait_begins), (n_gathered, n_ElderWait_gathered)], [n_left, n_known, n_called], false, false⟩),
  (n_TwoWait, ⟨n_TwoWait___init__, [(n_goes_on, n_GatherWait_goes_on), (n_begins, n_GatherWait_begins), (n_gathered, n_TwoWait_gathered)], [n_left, n_known, n_sign], false, false⟩),
  (n_SetWait, ⟨n_SetWait___init__, [(n_goes_on, n_GatherWait_goes_on), (n_begins, n_GatherWait_begins), (n_gathered, n_SetWait_gathered)], [n_left, n_known, n_called], false, false⟩),
  (n_FieldWait, ⟨n_FieldWait___init__, [(n_goes_on, n_FieldWait_goes_on)], [n_called], false, false⟩),
  (n_NotWait, ⟨n_Qbare, [(n_goes_on, n_NotWait_goes_on)], [], false, true⟩),
  (n_IfWait, ⟨n_IfWait___init__, [(n_goes_on, n_IfWait_goes_on)], [n_other, n_third], false, false⟩),
  (n_LetWait, ⟨n_LetWait___init__, [(n_goes_on, n_LetWait_goes_on)], [n_called, n_other], false, false⟩),
  (n_LooseWait, ⟨n_LooseWait___init__, [(n_goes_on, n_LooseWait_goes_on)], [n_bound], false, false⟩),
  (n_BackWait, ⟨n_BackWait___init__, [(n_goes_on, n_BackWait_goes_on)], [n_bound, n_own, n_home], false, false⟩),
  (n_Walk, ⟨n_Walk___init__, [(n_at_number, n_Walk_at_number), (n_at_truth, n_Walk_at_truth), (n_at_name, n_Walk_at_name), (n_at_self, n_Walk_at_self), (n_at_new, n_Walk_at_new), (n_at_elder, n_Walk_at_elder), (n_at_field, n_Walk_at_field), (n_at_call, n_Walk_at_call), (n_at_not, n_Walk_at_not), (n_at_two, n_Walk_at_two), (n_at_if, n_Walk_at_if), (n_at_let, n_Walk_at_let), (n_at_set, n_Walk_at_set), (n_enter, n_Walk_enter), (n_goes, n_Walk_goes)], [n_hall, n_words_by, n_most, n_made, n_counted, n_open_calls, n_waiting, n_bound, n_own, n_home, n_due, n_got, n_ended], false, false⟩),
  (n_Term, ⟨n_Term___init__, [(n_meet, n_Term_meet), (n_plain, n_Term_plain), (n_parts, n_Term_parts), (n_depth, n_Term_depth), (n_size, n_Term_size)], [n_inner, n_height, n_many], true, false⟩),
  (n_NumberTerm, ⟨n_NumberTerm___init__, [(n_meet, n_NumberTerm_meet), (n_plain, n_NumberTerm_plain), (n_parts, n_Term_parts), (n_depth, n_Term_depth), (n_size, n_Term_size)], [n_inner, n_height, n_many, n_number], false, false⟩),
  (n_TruthTerm, ⟨n_TruthTerm___init__, [(n_meet, n_TruthTerm_meet), (n_plain, n_TruthTerm_plain), (n_parts, n_Term_parts), (n_depth, n_Term_depth), (n_size, n_Term_size)], [n_inner, n_height, n_many, n_is_yes], false, false⟩),
  (n_NameTerm, ⟨n_NameTerm___init__, [(n_meet, n_NameTerm_meet), (n_plain, n_NameTerm_plain), (n_parts, n_Term_parts), (n_depth, n_Term_depth), (n_size, n_Term_size)], [n_inner, n_height, n_many, n_called], false, false⟩),
  (n_SelfTerm, ⟨n_SelfTerm___init__, [(n_meet, n_SelfTerm_meet), (n_plain, n_SelfTerm_plain), (n_parts, n_Term_parts), (n_depth, n_Term_depth), (n_size, n_Term_size)], [n_inner, n_height, n_many], false, false⟩),
  (n_NewTerm, ⟨n_NewTerm___init__, [(n_meet, n_NewTerm_meet), (n_plain, n_NewTerm_plain), (n_parts, n_Term_parts), (n_depth, n_Term_depth), (n_size, n_Term_size)], [n_inner, n_height, n_many, n_called], false, false⟩),
  (n_ElderTerm, ⟨n_ElderTerm___init__, [(n_meet, n_ElderTerm_meet), (n_plain, n_ElderTerm_plain), (n_parts, n_Term_parts), (n_depth, n_Term_depth), (n_size, n_Term_size)], [n_inner, n_height, n_many, n_called], false, false⟩),
  (n_FieldTerm, ⟨n_FieldTerm___init__, [(n_meet, n_FieldTerm_meet), (n_plain, n_FieldTerm_plain), (n_parts, n_Term_parts), (n_depth, n_Term_depth), (n_size, n_Term_size)], [n_inner, n_height, n_many, n_thing, n_called], false, false⟩),
  (n_CallTerm, ⟨n_CallTerm___init__, [(n_meet, n_CallTerm_meet), (n_plain, n_CallTerm_plain), (n_parts, n_Term_parts), (n_depth, n_Term_depth), (n_size, n_Term_size)], [n_inner, n_height, n_many, n_thing, n_called, n_given], false, false⟩),
  (n_NotTerm, ⟨n_NotTerm___init__, [(n_meet, n_NotTerm_meet), (n_plain, n_NotTerm_plain), (n_parts, n_Term_parts), (n_depth, n_Term_depth), (n_size, n_Term_size)], [n_inner, n_height, n_many, n_one], false, false⟩),
  (n_TwoTerm, ⟨n_TwoTerm___init__, [(n_meet, n_TwoTerm_meet), (n_plain, n_TwoTerm_plain), (n_parts, n_Term_parts), (n_depth, n_Term_depth), (n_size, n_Term_size)], [n_inner, n_height, n_many, n_sign, n_one, n_other], false, false⟩),
  (n_IfTerm, ⟨n_IfTerm___init__, [(n_meet, n_IfTerm_meet), (n_plain, n_IfTerm_plain), (n_parts, n_Term_parts), (n_depth, n_Term_depth), (n_size, n_Term_size)], [n_inner, n_height, n_many, n_one, n_other, n_third], false, false⟩),
  (n_LetTerm, ⟨n_LetTerm___init__, [(n_meet, n_LetTerm_meet), (n_plain, n_LetTerm_plain), (n_parts, n_Term_parts), (n_depth, n_Term_depth), (n_size, n_Term_size)], [n_inner, n_height, n_many, n_called, n_one, n_other], false, false⟩),
  (n_SetTerm, ⟨n_SetTerm___init__, [(n_meet, n_SetTerm_meet), (n_plain, n_SetTerm_plain), (n_parts, n_Term_parts), (n_depth, n_Term_depth), (n_size, n_Term_size)], [n_inner, n_height, n_many, n_thing, n_called, n_other], false, false⟩),
  (n_Program, ⟨n_Program___init__, [(n_bodies, n_Program_bodies), (n_plain, n_Program_plain)], [n_houses_told, n_main_told], false, false⟩)]
def sgT : Sig := ⟨fun f => getF f fdsT, fun c => getC c cdsT, fun g => getN g conT⟩
end Py

set_option Elab.async false
set_option linter.all false
set_option maxRecDepth 100000
set_option maxHeartbeats 0
/-! The tables of law 44 (printed by gen.py). -/
namespace Py
open PySem PySem.Spec PyProof.Rows L2
def topT (i : Nat) : Stmt := PySem.Challenge.pw_elderhouse_k44_the_things_own_house.main.body.getD i (.Pass ⟨0, 0, 0, 0⟩)
def gfT (f : Nat) : Bool := [n__wall, n_within, n_two_told, n_walked, n_plains, n_leaf_of, n_thing_term_of, n_term_of, n_program_of, n__law_cell_at, n__law_mixed, n__law_tree, n__law_told, n__law_houses, n__law_asked, n_law].contains f
def gs__wall : Stmt := topT 0
def ge__wall : He.DefD := ⟨("_wall", none), "_wall", "_wall", defArgs gs__wall, defBody gs__wall, defScope gs__wall, [], []⟩
def gs_within : Stmt := topT 7
def ge_within : He.DefD := ⟨("within", none), "within", "within", defArgs gs_within, defBody gs_within, defScope gs_within, [], []⟩
def gs_two_told : Stmt := topT 8
def ge_two_told : He.DefD := ⟨("two_told", none), "two_told", "two_told", defArgs gs_two_told, defBody gs_two_told, defScope gs_two_told, [], []⟩
def gs_walked : Stmt := topT 26
def ge_walked : He.DefD := ⟨("walked", none), "walked", "walked", defArgs gs_walked, defBody gs_walked, defScope gs_walked, [.int 100], []⟩
def gs_plains : Stmt := topT 29
def ge_plains : He.DefD := ⟨("plains", none), "plains", "plains", defArgs gs_plains, defBody gs_plains, defScope gs_plains, [], []⟩
def gs_leaf_of : Stmt := topT 45
def ge_leaf_of : He.DefD := ⟨("leaf_of", none), "leaf_of", "leaf_of", defArgs gs_leaf_of, defBody gs_leaf_of, defScope gs_leaf_of, [], []⟩
def gs_thing_term_of : Stmt := topT 46
def ge_thing_term_of : He.DefD := ⟨("thing_term_of", none), "thing_term_of", "thing_term_of", defArgs gs_thing_term_of, defBody gs_thing_term_of, defScope gs_thing_term_of, [], []⟩
def gs_term_of : Stmt := topT 47
def ge_term_of : He.DefD := ⟨("term_of", none), "term_of", "term_of", defArgs gs_term_of, defBody gs_term_of, defScope gs_term_of, [], []⟩
def gs_program_of : Stmt := topT 48
def ge_program_of : He.DefD := ⟨("program_of", none), "program_of", "program_of", defArgs gs_program_of, defBody gs_program_of, defScope gs_program_of, [], []⟩
def gs__law_cell_at : Stmt := topT 50
def ge__law_cell_at : He.DefD := ⟨("_law_cell_at", none), "_law_cell_at", "_law_cell_at", defArgs gs__law_cell_at, defBody gs__law_cell_at, defScope gs__law_cell_at, [], []⟩
def gs__law_mixed : Stmt := topT 51
def ge__law_mixed : He.DefD := ⟨("_law_mixed", none), "_law_mixed", "_law_mixed", defArgs gs__law_mixed, defBody gs__law_mixed, defScope gs__law_mixed, [], []⟩
def gs__law_tree : Stmt := topT 52
def ge__law_tree : He.DefD := ⟨("_law_tree", none), "_law_tree", "_law_tree", defArgs gs__law_tree, defBody gs__law_tree, defScope gs__law_tree, [], []⟩
def gs__law_told : Stmt := topT 53
def ge__law_told : He.DefD := ⟨("_law_told", none), "_law_told", "_law_told", defArgs gs__law_told, defBody gs__law_told, defScope gs__law_told, [], []⟩
def gs__law_houses : Stmt := topT 54
def ge__law_houses : He.DefD := ⟨("_law_houses", none), "_law_houses", "_law_houses", defArgs gs__law_houses, defBody gs__law_houses, defScope gs__law_houses, [], []⟩
def gs__law_asked : Stmt := topT 55
def ge__law_asked : He.DefD := ⟨("_law_asked", none), "_law_asked", "_law_asked", defArgs gs__law_asked, defBody gs__law_asked, defScope gs__law_asked, [], []⟩
def gs_law : Stmt := topT 56
def ge_law : He.DefD := ⟨("law", none), "law", "law", defArgs gs_law, defBody gs_law, defScope gs_law, [], []⟩
def gs_Guest_at_number : Stmt := inClass (topT 2) 0
def ge_Guest_at_number : He.DefD := ⟨("Guest", some "at_number"), "at_number", "Guest.at_number", defArgs gs_Guest_at_number, defBody gs_Guest_at_number, defScope gs_Guest_at_number, [], []⟩
def gs_Guest_at_truth : Stmt := inClass (topT 2) 1
def ge_Guest_at_truth : He.DefD := ⟨("Guest", some "at_truth"), "at_truth", "Guest.at_truth", defArgs gs_Guest_at_truth, defBody gs_Guest_at_truth, defScope gs_Guest_at_truth, [], []⟩
def gs_Guest_at_name : Stmt := inClass (topT 2) 2
def ge_Guest_at_name : He.DefD := ⟨("Guest", some "at_name"), "at_name", "Guest.at_name", defArgs gs_Guest_at_name, defBody gs_Guest_at_name, defScope gs_Guest_at_name, [], []⟩
def gs_Guest_at_self : Stmt := inClass (topT 2) 3
def ge_Guest_at_self : He.DefD := ⟨("Guest", some "at_self"), "at_self", "Guest.at_self", defArgs gs_Guest_at_self, defBody gs_Guest_at_self, defScope gs_Guest_at_self, [], []⟩
def gs_Guest_at_new : Stmt := inClass (topT 2) 4
def ge_Guest_at_new : He.DefD := ⟨("Guest", some "at_new"), "at_new", "Guest.at_new", defArgs gs_Guest_at_new, defBody gs_Guest_at_new, defScope gs_Guest_at_new, [], []⟩
def gs_Guest_at_elder : Stmt := inClass (topT 2) 5
def ge_Guest_at_elder : He.DefD := ⟨("Guest", some "at_elder"), "at_elder", "Guest.at_elder", defArgs gs_Guest_at_elder, defBody gs_Guest_at_elder, defScope gs_Guest_at_elder, [], []⟩
def gs_Guest_at_field : Stmt := inClass (topT 2) 6
def ge_Guest_at_field : He.DefD := ⟨("Guest", some "at_field"), "at_field", "Guest.at_field", defArgs gs_Guest_at_field, defBody gs_Guest_at_field, defScope gs_Guest_at_field, [], []⟩
def gs_Guest_at_call : Stmt := inClass (topT 2) 7
def ge_Guest_at_call : He.DefD := ⟨("Guest", some "at_call"), "at_call", "Guest.at_call", defArgs gs_Guest_at_call, defBody gs_Guest_at_call, defScope gs_Guest_at_call, [], []⟩
def gs_Guest_at_not : Stmt := inClass (topT 2) 8
def ge_Guest_at_not : He.DefD := ⟨("Guest", some "at_not"), "at_not", "Guest.at_not", defArgs gs_Guest_at_not, defBody gs_Guest_at_not, defScope gs_Guest_at_not, [], []⟩
def gs_Guest_at_two : Stmt := inClass (topT 2) 9
def ge_Guest_at_two : He.DefD := ⟨("Guest", some "at_two"), "at_two", "Guest.at_two", defArgs gs_Guest_at_two, defBody gs_Guest_at_two, defScope gs_Guest_at_two, [], []⟩
def gs_Guest_at_if : Stmt := inClass (topT 2) 10
def ge_Guest_at_if : He.DefD := ⟨("Guest", some "at_if"), "at_if", "Guest.at_if", defArgs gs_Guest_at_if, defBody gs_Guest_at_if, defScope gs_Guest_at_if, [], []⟩
def gs_Guest_at_let : Stmt := inClass (topT 2) 11
def ge_Guest_at_let : He.DefD := ⟨("Guest", some "at_let"), "at_let", "Guest.at_let", defArgs gs_Guest_at_let, defBody gs_Guest_at_let, defScope gs_Guest_at_let, [], []⟩
def gs_Guest_at_set : Stmt := inClass (topT 2) 12
def ge_Guest_at_set : He.DefD := ⟨("Guest", some "at_set"), "at_set", "Guest.at_set", defArgs gs_Guest_at_set, defBody gs_Guest_at_set, defScope gs_Guest_at_set, [], []⟩
def gs_Hall___init__ : Stmt := inClass (topT 4) 0
def ge_Hall___init__ : He.DefD := ⟨("Hall", some "__init__"), "__init__", "Hall.__init__", defArgs gs_Hall___init__, defBody gs_Hall___init__, defScope gs_Hall___init__, [], []⟩
def gs_Hall_houses : Stmt := inClass (topT 4) 1
def ge_Hall_houses : He.DefD := ⟨("Hall", some "houses"), "houses", "Hall.houses", defArgs gs_Hall_houses, defBody gs_Hall_houses, defScope gs_Hall_houses, [], []⟩
def gs_Hall_elders : Stmt := inClass (topT 4) 2
def ge_Hall_elders : He.DefD := ⟨("Hall", some "elders"), "elders", "Hall.elders", defArgs gs_Hall_elders, defBody gs_Hall_elders, defScope gs_Hall_elders, [], []⟩
def gs_Hall_younger : Stmt := inClass (topT 4) 3
def ge_Hall_younger : He.DefD := ⟨("Hall", some "younger"), "younger", "Hall.younger", defArgs gs_Hall_younger, defBody gs_Hall_younger, defScope gs_Hall_younger, [], []⟩
def gs_Hall_fields : Stmt := inClass (topT 4) 4
def ge_Hall_fields : He.DefD := ⟨("Hall", some "fields"), "fields", "Hall.fields", defArgs gs_Hall_fields, defBody gs_Hall_fields, defScope gs_Hall_fields, [], []⟩
def gs_Hall_place : Stmt := inClass (topT 4) 5
def ge_Hall_place : He.DefD := ⟨("Hall", some "place"), "place", "Hall.place", defArgs gs_Hall_place, defBody gs_Hall_place, defScope gs_Hall_place, [], []⟩
def gs_Hall_found : Stmt := inClass (topT 4) 6
def ge_Hall_found : He.DefD := ⟨("Hall", some "found"), "found", "Hall.found", defArgs gs_Hall_found, defBody gs_Hall_found, defScope gs_Hall_found, [], []⟩
def gs_Hall_head : Stmt := inClass (topT 4) 7
def ge_Hall_head : He.DefD := ⟨("Hall", some "head"), "head", "Hall.head", defArgs gs_Hall_head, defBody gs_Hall_head, defScope gs_Hall_head, [], []⟩
def gs_Wait_goes_on : Stmt := inClass (topT 10) 0
def ge_Wait_goes_on : He.DefD := ⟨("Wait", some "goes_on"), "goes_on", "Wait.goes_on", defArgs gs_Wait_goes_on, defBody gs_Wait_goes_on, defScope gs_Wait_goes_on, [], []⟩
def gs_GatherWait___init__ : Stmt := inClass (topT 11) 0
def ge_GatherWait___init__ : He.DefD := ⟨("GatherWait", some "__init__"), "__init__", "GatherWait.__init__", defArgs gs_GatherWait___init__, defBody gs_GatherWait___init__, defScope gs_GatherWait___init__, [], []⟩
def gs_GatherWait_begins : Stmt := inClass (topT 11) 1
def ge_GatherWait_begins : He.DefD := ⟨("GatherWait", some "begins"), "begins", "GatherWait.begins", defArgs gs_GatherWait_begins, defBody gs_GatherWait_begins, defScope gs_GatherWait_begins, [], []⟩
def gs_GatherWait_goes_on : Stmt := inClass (topT 11) 2
def ge_GatherWait_goes_on : He.DefD := ⟨("GatherWait", some "goes_on"), "goes_on", "GatherWait.goes_on", defArgs gs_GatherWait_goes_on, defBody gs_GatherWait_goes_on, defScope gs_GatherWait_goes_on, [], []⟩
def gs_GatherWait_gathered : Stmt := inClass (topT 11) 3
def ge_GatherWait_gathered : He.DefD := ⟨("GatherWait", some "gathered"), "gathered", "GatherWait.gathered", defArgs gs_GatherWait_gathered, defBody gs_GatherWait_gathered, defScope gs_GatherWait_gathered, [], []⟩
def gs_NewWait___init__ : Stmt := inClass (topT 12) 0
def ge_NewWait___init__ : He.DefD := ⟨("NewWait", some "__init__"), "__init__", "NewWait.__init__", defArgs gs_NewWait___init__, defBody gs_NewWait___init__, defScope gs_NewWait___init__, [], []⟩
def gs_NewWait_gathered : Stmt := inClass (topT 12) 1
def ge_NewWait_gathered : He.DefD := ⟨("NewWait", some "gathered"), "gathered", "NewWait.gathered", defArgs gs_NewWait_gathered, defBody gs_NewWait_gathered, defScope gs_NewWait_gathered, [], []⟩
def gs_CallWait___init__ : Stmt := inClass (topT 13) 0
def ge_CallWait___init__ : He.DefD := ⟨("CallWait", some "__init__"), "__init__", "CallWait.__init__", defArgs gs_CallWait___init__, defBody gs_CallWait___init__, defScope gs_CallWait___init__, [], []⟩
def gs_CallWait_gathered : Stmt := inClass (topT 13) 1
def ge_CallWait_gathered : He.DefD := ⟨("CallWait", some "gathered"), "gathered", "CallWait.gathered", defArgs gs_CallWait_gathered, defBody gs_CallWait_gathered, defScope gs_CallWait_gathered, [], []⟩
def gs_ElderWait___init__ : Stmt := inClass (topT 14) 0
def ge_ElderWait___init__ : He.DefD := ⟨("ElderWait", some "__init__"), "__init__", "ElderWait.__init__", defArgs gs_ElderWait___init__, defBody gs_ElderWait___init__, defScope gs_ElderWait___init__, [], []⟩
def gs_ElderWait_gathered : Stmt := inClass (topT 14) 1
def ge_ElderWait_gathered : He.DefD := ⟨("ElderWait", some "gathered"), "gathered", "ElderWait.gathered", defArgs gs_ElderWait_gathered, defBody gs_ElderWait_gathered, defScope gs_ElderWait_gathered, [], []⟩
def gs_TwoWait___init__ : Stmt := inClass (topT 15) 0
def ge_TwoWait___init__ : He.DefD := ⟨("TwoWait", some "__init__"), "__init__", "TwoWait.__init__", defArgs gs_TwoWait___init__, defBody gs_TwoWait___init__, defScope gs_TwoWait___init__, [], []⟩
def gs_TwoWait_gathered : Stmt := inClass (topT 15) 1
def ge_TwoWait_gathered : He.DefD := ⟨("TwoWait", some "gathered"), "gathered", "TwoWait.gathered", defArgs gs_TwoWait_gathered, defBody gs_TwoWait_gathered, defScope gs_TwoWait_gathered, [], []⟩
def gs_SetWait___init__ : Stmt := inClass (topT 16) 0
def ge_SetWait___init__ : He.DefD := ⟨("SetWait", some "__init__"), "__init__", "SetWait.__init__", defArgs gs_SetWait___init__, defBody gs_SetWait___init__, defScope gs_SetWait___init__, [], []⟩
def gs_SetWait_gathered : Stmt := inClass (topT 16) 1
def ge_SetWait_gathered : He.DefD := ⟨("SetWait", some "gathered"), "gathered", "SetWait.gathered", defArgs gs_SetWait_gathered, defBody gs_SetWait_gathered, defScope gs_SetWait_gathered, [], []⟩
def gs_FieldWait___init__ : Stmt := inClass (topT 17) 0
def ge_FieldWait___init__ : He.DefD := ⟨("FieldWait", some "__init__"), "__init__", "FieldWait.__init__", defArgs gs_FieldWait___init__, defBody gs_FieldWait___init__, defScope gs_FieldWait___init__, [], []⟩
def gs_FieldWait_goes_on : Stmt := inClass (topT 17) 1
def ge_FieldWait_goes_on : He.DefD := ⟨("FieldWait", some "goes_on"), "goes_on", "FieldWait.goes_on", defArgs gs_FieldWait_goes_on, defBody gs_FieldWait_goes_on, defScope gs_FieldWait_goes_on, [], []⟩
def gs_NotWait_goes_on : Stmt := inClass (topT 18) 0
def ge_NotWait_goes_on : He.DefD := ⟨("NotWait", some "goes_on"), "goes_on", "NotWait.goes_on", defArgs gs_NotWait_goes_on, defBody gs_NotWait_goes_on, defScope gs_NotWait_goes_on, [], []⟩
def gs_IfWait___init__ : Stmt := inClass (topT 19) 0
def ge_IfWait___init__ : He.DefD := ⟨("IfWait", some "__init__"), "__init__", "IfWait.__init__", defArgs gs_IfWait___init__, defBody gs_IfWait___init__, defScope gs_IfWait___init__, [], []⟩
def gs_IfWait_goes_on : Stmt := inClass (topT 19) 1
def ge_IfWait_goes_on : He.DefD := ⟨("IfWait", some "goes_on"), "goes_on", "IfWait.goes_on", defArgs gs_IfWait_goes_on, defBody gs_IfWait_goes_on, defScope gs_IfWait_goes_on, [], []⟩
def gs_LetWait___init__ : Stmt := inClass (topT 20) 0
def ge_LetWait___init__ : He.DefD := ⟨("LetWait", some "__init__"), "__init__", "LetWait.__init__", defArgs gs_LetWait___init__, defBody gs_LetWait___init__, defScope gs_LetWait___init__, [], []⟩
def gs_LetWait_goes_on : Stmt := inClass (topT 20) 1
def ge_LetWait_goes_on : He.DefD := ⟨("LetWait", some "goes_on"), "goes_on", "LetWait.goes_on", defArgs gs_LetWait_goes_on, defBody gs_LetWait_goes_on, defScope gs_LetWait_goes_on, [], []⟩
def gs_LooseWait___init__ : Stmt := inClass (topT 21) 0
def ge_LooseWait___init__ : He.DefD := ⟨("LooseWait", some "__init__"), "__init__", "LooseWait.__init__", defArgs gs_LooseWait___init__, defBody gs_LooseWait___init__, defScope gs_LooseWait___init__, [], []⟩
def gs_LooseWait_goes_on : Stmt := inClass (topT 21) 1
def ge_LooseWait_goes_on : He.DefD := ⟨("LooseWait", some "goes_on"), "goes_on", "LooseWait.goes_on", defArgs gs_LooseWait_goes_on, defBody gs_LooseWait_goes_on, defScope gs_LooseWait_goes_on, [], []⟩
def gs_BackWait___init__ : Stmt := inClass (topT 22) 0
def ge_BackWait___init__ : He.DefD := ⟨("BackWait", some "__init__"), "__init__", "BackWait.__init__", defArgs gs_BackWait___init__, defBody gs_BackWait___init__, defScope gs_BackWait___init__, [], []⟩
def gs_BackWait_goes_on : Stmt := inClass (topT 22) 1
def ge_BackWait_goes_on : He.DefD := ⟨("BackWait", some "goes_on"), "goes_on", "BackWait.goes_on", defArgs gs_BackWait_goes_on, defBody gs_BackWait_goes_on, defScope gs_BackWait_goes_on, [], []⟩
def gs_Walk___init__ : Stmt := inClass (topT 25) 0
def ge_Walk___init__ : He.DefD := ⟨("Walk", some "__init__"), "__init__", "Walk.__init__", defArgs gs_Walk___init__, defBody gs_Walk___init__, defScope gs_Walk___init__, [], []⟩
def gs_Walk_at_number : Stmt := inClass (topT 25) 1
def ge_Walk_at_number : He.DefD := ⟨("Walk", some "at_number"), "at_number", "Walk.at_number", defArgs gs_Walk_at_number, defBody gs_Walk_at_number, defScope gs_Walk_at_number, [], []⟩
def gs_Walk_at_truth : Stmt := inClass (topT 25) 2
def ge_Walk_at_truth : He.DefD := ⟨("Walk", some "at_truth"), "at_truth", "Walk.at_truth", defArgs gs_Walk_at_truth, defBody gs_Walk_at_truth, defScope gs_Walk_at_truth, [], []⟩
def gs_Walk_at_name : Stmt := inClass (topT 25) 3
def ge_Walk_at_name : He.DefD := ⟨("Walk", some "at_name"), "at_name", "Walk.at_name", defArgs gs_Walk_at_name, defBody gs_Walk_at_name, defScope gs_Walk_at_name, [], []⟩
def gs_Walk_at_self : Stmt := inClass (topT 25) 4
def ge_Walk_at_self : He.DefD := ⟨("Walk", some "at_self"), "at_self", "Walk.at_self", defArgs gs_Walk_at_self, defBody gs_Walk_at_self, defScope gs_Walk_at_self, [], []⟩
def gs_Walk_at_new : Stmt := inClass (topT 25) 5
def ge_Walk_at_new : He.DefD := ⟨("Walk", some "at_new"), "at_new", "Walk.at_new", defArgs gs_Walk_at_new, defBody gs_Walk_at_new, defScope gs_Walk_at_new, [], []⟩
def gs_Walk_at_elder : Stmt := inClass (topT 25) 6
def ge_Walk_at_elder : He.DefD := ⟨("Walk", some "at_elder"), "at_elder", "Walk.at_elder", defArgs gs_Walk_at_elder, defBody gs_Walk_at_elder, defScope gs_Walk_at_elder, [], []⟩
def gs_Walk_at_call : Stmt := inClass (topT 25) 7
def ge_Walk_at_call : He.DefD := ⟨("Walk", some "at_call"), "at_call", "Walk.at_call", defArgs gs_Walk_at_call, defBody gs_Walk_at_call, defScope gs_Walk_at_call, [], []⟩
def gs_Walk_at_two : Stmt := inClass (topT 25) 8
def ge_Walk_at_two : He.DefD := ⟨("Walk", some "at_two"), "at_two", "Walk.at_two", defArgs gs_Walk_at_two, defBody gs_Walk_at_two, defScope gs_Walk_at_two, [], []⟩
def gs_Walk_at_set : Stmt := inClass (topT 25) 9
def ge_Walk_at_set : He.DefD := ⟨("Walk", some "at_set"), "at_set", "Walk.at_set", defArgs gs_Walk_at_set, defBody gs_Walk_at_set, defScope gs_Walk_at_set, [], []⟩
def gs_Walk_at_field : Stmt := inClass (topT 25) 10
def ge_Walk_at_field : He.DefD := ⟨("Walk", some "at_field"), "at_field", "Walk.at_field", defArgs gs_Walk_at_field, defBody gs_Walk_at_field, defScope gs_Walk_at_field, [], []⟩
def gs_Walk_at_not : Stmt := inClass (topT 25) 11
def ge_Walk_at_not : He.DefD := ⟨("Walk", some "at_not"), "at_not", "Walk.at_not", defArgs gs_Walk_at_not, defBody gs_Walk_at_not, defScope gs_Walk_at_not, [], []⟩
def gs_Walk_at_if : Stmt := inClass (topT 25) 12
def ge_Walk_at_if : He.DefD := ⟨("Walk", some "at_if"), "at_if", "Walk.at_if", defArgs gs_Walk_at_if, defBody gs_Walk_at_if, defScope gs_Walk_at_if, [], []⟩
def gs_Walk_at_let : Stmt := inClass (topT 25) 13
def ge_Walk_at_let : He.DefD := ⟨("Walk", some "at_let"), "at_let", "Walk.at_let", defArgs gs_Walk_at_let, defBody gs_Walk_at_let, defScope gs_Walk_at_let, [], []⟩
def gs_Walk_enter : Stmt := inClass (topT 25) 14
def ge_Walk_enter : He.DefD := ⟨("Walk", some "enter"), "enter", "Walk.enter", defArgs gs_Walk_enter, defBody gs_Walk_enter, defScope gs_Walk_enter, [], []⟩
def gs_Walk_goes : Stmt := inClass (topT 25) 15
def ge_Walk_goes : He.DefD := ⟨("Walk", some "goes"), "goes", "Walk.goes", defArgs gs_Walk_goes, defBody gs_Walk_goes, defScope gs_Walk_goes, [], []⟩
def gs_Term___init__ : Stmt := inClass (topT 28) 0
def ge_Term___init__ : He.DefD := ⟨("Term", some "__init__"), "__init__", "Term.__init__", defArgs gs_Term___init__, defBody gs_Term___init__, defScope gs_Term___init__, [], []⟩
def gs_Term_meet : Stmt := inClass (topT 28) 1
def ge_Term_meet : He.DefD := ⟨("Term", some "meet"), "meet", "Term.meet", defArgs gs_Term_meet, defBody gs_Term_meet, defScope gs_Term_meet, [], []⟩
def gs_Term_plain : Stmt := inClass (topT 28) 2
def ge_Term_plain : He.DefD := ⟨("Term", some "plain"), "plain", "Term.plain", defArgs gs_Term_plain, defBody gs_Term_plain, defScope gs_Term_plain, [], []⟩
def gs_Term_parts : Stmt := inClass (topT 28) 3
def ge_Term_parts : He.DefD := ⟨("Term", some "parts"), "parts", "Term.parts", defArgs gs_Term_parts, defBody gs_Term_parts, defScope gs_Term_parts, [], []⟩
def gs_Term_depth : Stmt := inClass (topT 28) 4
def ge_Term_depth : He.DefD := ⟨("Term", some "depth"), "depth", "Term.depth", defArgs gs_Term_depth, defBody gs_Term_depth, defScope gs_Term_depth, [], []⟩
def gs_Term_size : Stmt := inClass (topT 28) 5
def ge_Term_size : He.DefD := ⟨("Term", some "size"), "size", "Term.size", defArgs gs_Term_size, defBody gs_Term_size, defScope gs_Term_size, [], []⟩
def gs_NumberTerm___init__ : Stmt := inClass (topT 30) 0
def ge_NumberTerm___init__ : He.DefD := ⟨("NumberTerm", some "__init__"), "__init__", "NumberTerm.__init__", defArgs gs_NumberTerm___init__, defBody gs_NumberTerm___init__, defScope gs_NumberTerm___init__, [], []⟩
def gs_NumberTerm_meet : Stmt := inClass (topT 30) 1
def ge_NumberTerm_meet : He.DefD := ⟨("NumberTerm", some "meet"), "meet", "NumberTerm.meet", defArgs gs_NumberTerm_meet, defBody gs_NumberTerm_meet, defScope gs_NumberTerm_meet, [], []⟩
def gs_NumberTerm_plain : Stmt := inClass (topT 30) 2
def ge_NumberTerm_plain : He.DefD := ⟨("NumberTerm", some "plain"), "plain", "NumberTerm.plain", defArgs gs_NumberTerm_plain, defBody gs_NumberTerm_plain, defScope gs_NumberTerm_plain, [], []⟩
def gs_TruthTerm___init__ : Stmt := inClass (topT 31) 0
def ge_TruthTerm___init__ : He.DefD := ⟨("TruthTerm", some "__init__"), "__init__", "TruthTerm.__init__", defArgs gs_TruthTerm___init__, defBody gs_TruthTerm___init__, defScope gs_TruthTerm___init__, [], []⟩
def gs_TruthTerm_meet : Stmt := inClass (topT 31) 1
def ge_TruthTerm_meet : He.DefD := ⟨("TruthTerm", some "meet"), "meet", "TruthTerm.meet", defArgs gs_TruthTerm_meet, defBody gs_TruthTerm_meet, defScope gs_TruthTerm_meet, [], []⟩
def gs_TruthTerm_plain : Stmt := inClass (topT 31) 2
def ge_TruthTerm_plain : He.DefD := ⟨("TruthTerm", some "plain"), "plain", "TruthTerm.plain", defArgs gs_TruthTerm_plain, defBody gs_TruthTerm_plain, defScope gs_TruthTerm_plain, [], []⟩
def gs_NameTerm___init__ : Stmt := inClass (topT 32) 0
def ge_NameTerm___init__ : He.DefD := ⟨("NameTerm", some "__init__"), "__init__", "NameTerm.__init__", defArgs gs_NameTerm___init__, defBody gs_NameTerm___init__, defScope gs_NameTerm___init__, [], []⟩
def gs_NameTerm_meet : Stmt := inClass (topT 32) 1
def ge_NameTerm_meet : He.DefD := ⟨("NameTerm", some "meet"), "meet", "NameTerm.meet", defArgs gs_NameTerm_meet, defBody gs_NameTerm_meet, defScope gs_NameTerm_meet, [], []⟩
def gs_NameTerm_plain : Stmt := inClass (topT 32) 2
def ge_NameTerm_plain : He.DefD := ⟨("NameTerm", some "plain"), "plain", "NameTerm.plain", defArgs gs_NameTerm_plain, defBody gs_NameTerm_plain, defScope gs_NameTerm_plain, [], []⟩
def gs_SelfTerm___init__ : Stmt := inClass (topT 33) 0
def ge_SelfTerm___init__ : He.DefD := ⟨("SelfTerm", some "__init__"), "__init__", "SelfTerm.__init__", defArgs gs_SelfTerm___init__, defBody gs_SelfTerm___init__, defScope gs_SelfTerm___init__, [], []⟩
def gs_SelfTerm_meet : Stmt := inClass (topT 33) 1
def ge_SelfTerm_meet : He.DefD := ⟨("SelfTerm", some "meet"), "meet", "SelfTerm.meet", defArgs gs_SelfTerm_meet, defBody gs_SelfTerm_meet, defScope gs_SelfTerm_meet, [], []⟩
def gs_SelfTerm_plain : Stmt := inClass (topT 33) 2
def ge_SelfTerm_plain : He.DefD := ⟨("SelfTerm", some "plain"), "plain", "SelfTerm.plain", defArgs gs_SelfTerm_plain, defBody gs_SelfTerm_plain, defScope gs_SelfTerm_plain, [], []⟩
def gs_NewTerm___init__ : Stmt := inClass (topT 34) 0
def ge_NewTerm___init__ : He.DefD := ⟨("NewTerm", some "__init__"), "__init__", "NewTerm.__init__", defArgs gs_NewTerm___init__, defBody gs_NewTerm___init__, defScope gs_NewTerm___init__, [], []⟩
def gs_NewTerm_meet : Stmt := inClass (topT 34) 1
def ge_NewTerm_meet : He.DefD := ⟨("NewTerm", some "meet"), "meet", "NewTerm.meet", defArgs gs_NewTerm_meet, defBody gs_NewTerm_meet, defScope gs_NewTerm_meet, [], []⟩
def gs_NewTerm_plain : Stmt := inClass (topT 34) 2
def ge_NewTerm_plain : He.DefD := ⟨("NewTerm", some "plain"), "plain", "NewTerm.plain", defArgs gs_NewTerm_plain, defBody gs_NewTerm_plain, defScope gs_NewTerm_plain, [], []⟩
def gs_ElderTerm___init__ : Stmt := inClass (topT 35) 0
def ge_ElderTerm___init__ : He.DefD := ⟨("ElderTerm", some "__init__"), "__init__", "ElderTerm.__init__", defArgs gs_ElderTerm___init__, defBody gs_ElderTerm___init__, defScope gs_ElderTerm___init__, [], []⟩
def gs_ElderTerm_meet : Stmt := inClass (topT 35) 1
def ge_ElderTerm_meet : He.DefD := ⟨("ElderTerm", some "meet"), "meet", "ElderTerm.meet", defArgs gs_ElderTerm_meet, defBody gs_ElderTerm_meet, defScope gs_ElderTerm_meet, [], []⟩
def gs_ElderTerm_plain : Stmt := inClass (topT 35) 2
def ge_ElderTerm_plain : He.DefD := ⟨("ElderTerm", some "plain"), "plain", "ElderTerm.plain", defArgs gs_ElderTerm_plain, defBody gs_ElderTerm_plain, defScope gs_ElderTerm_plain, [], []⟩
def gs_FieldTerm___init__ : Stmt := inClass (topT 36) 0
def ge_FieldTerm___init__ : He.DefD := ⟨("FieldTerm", some "__init__"), "__init__", "FieldTerm.__init__", defArgs gs_FieldTerm___init__, defBody gs_FieldTerm___init__, defScope gs_FieldTerm___init__, [], []⟩
def gs_FieldTerm_meet : Stmt := inClass (topT 36) 1
def ge_FieldTerm_meet : He.DefD := ⟨("FieldTerm", some "meet"), "meet", "FieldTerm.meet", defArgs gs_FieldTerm_meet, defBody gs_FieldTerm_meet, defScope gs_FieldTerm_meet, [], []⟩
def gs_FieldTerm_plain : Stmt := inClass (topT 36) 2
def ge_FieldTerm_plain : He.DefD := ⟨("FieldTerm", some "plain"), "plain", "FieldTerm.plain", defArgs gs_FieldTerm_plain, defBody gs_FieldTerm_plain, defScope gs_FieldTerm_plain, [], []⟩
def gs_CallTerm___init__ : Stmt := inClass (topT 37) 0
def ge_CallTerm___init__ : He.DefD := ⟨("CallTerm", some "__init__"), "__init__", "CallTerm.__init__", defArgs gs_CallTerm___init__, defBody gs_CallTerm___init__, defScope gs_CallTerm___init__, [], []⟩
def gs_CallTerm_meet : Stmt := inClass (topT 37) 1
def ge_CallTerm_meet : He.DefD := ⟨("CallTerm", some "meet"), "meet", "CallTerm.meet", defArgs gs_CallTerm_meet, defBody gs_CallTerm_meet, defScope gs_CallTerm_meet, [], []⟩
def gs_CallTerm_plain : Stmt := inClass (topT 37) 2
def ge_CallTerm_plain : He.DefD := ⟨("CallTerm", some "plain"), "plain", "CallTerm.plain", defArgs gs_CallTerm_plain, defBody gs_CallTerm_plain, defScope gs_CallTerm_plain, [], []⟩
def gs_NotTerm___init__ : Stmt := inClass (topT 38) 0
def ge_NotTerm___init__ : He.DefD := ⟨("NotTerm", some "__init__"), "__init__", "NotTerm.__init__", defArgs gs_NotTerm___init__, defBody gs_NotTerm___init__, defScope gs_NotTerm___init__, [], []⟩
def gs_NotTerm_meet : Stmt := inClass (topT 38) 1
def ge_NotTerm_meet : He.DefD := ⟨("NotTerm", some "meet"), "meet", "NotTerm.meet", defArgs gs_NotTerm_meet, defBody gs_NotTerm_meet, defScope gs_NotTerm_meet, [], []⟩
def gs_NotTerm_plain : Stmt := inClass (topT 38) 2
def ge_NotTerm_plain : He.DefD := ⟨("NotTerm", some "plain"), "plain", "NotTerm.plain", defArgs gs_NotTerm_plain, defBody gs_NotTerm_plain, defScope gs_NotTerm_plain, [], []⟩
def gs_TwoTerm___init__ : Stmt := inClass (topT 39) 0
def ge_TwoTerm___init__ : He.DefD := ⟨("TwoTerm", some "__init__"), "__init__", "TwoTerm.__init__", defArgs gs_TwoTerm___init__, defBody gs_TwoTerm___init__, defScope gs_TwoTerm___init__, [], []⟩
def gs_TwoTerm_meet : Stmt := inClass (topT 39) 1
def ge_TwoTerm_meet : He.DefD := ⟨("TwoTerm", some "meet"), "meet", "TwoTerm.meet", defArgs gs_TwoTerm_meet, defBody gs_TwoTerm_meet, defScope gs_TwoTerm_meet, [], []⟩
def gs_TwoTerm_plain : Stmt := inClass (topT 39) 2
def ge_TwoTerm_plain : He.DefD := ⟨("TwoTerm", some "plain"), "plain", "TwoTerm.plain", defArgs gs_TwoTerm_plain, defBody gs_TwoTerm_plain, defScope gs_TwoTerm_plain, [], []⟩
def gs_IfTerm___init__ : Stmt := inClass (topT 40) 0
def ge_IfTerm___init__ : He.DefD := ⟨("IfTerm", some "__init__"), "__init__", "IfTerm.__init__", defArgs gs_IfTerm___init__, defBody gs_IfTerm___init__, defScope gs_IfTerm___init__, [], []⟩
def gs_IfTerm_meet : Stmt := inClass (topT 40) 1
def ge_IfTerm_meet : He.DefD := ⟨("IfTerm", some "meet"), "meet", "IfTerm.meet", defArgs gs_IfTerm_meet, defBody gs_IfTerm_meet, defScope gs_IfTerm_meet, [], []⟩
def gs_IfTerm_plain : Stmt := inClass (topT 40) 2
def ge_IfTerm_plain : He.DefD := ⟨("IfTerm", some "plain"), "plain", "IfTerm.plain", defArgs gs_IfTerm_plain, defBody gs_IfTerm_plain, defScope gs_IfTerm_plain, [], []⟩
def gs_LetTerm___init__ : Stmt := inClass (topT 41) 0
def ge_LetTerm___init__ : He.DefD := ⟨("LetTerm", some "__init__"), "__init__", "LetTerm.__init__", defArgs gs_LetTerm___init__, defBody gs_LetTerm___init__, defScope gs_LetTerm___init__, [], []⟩
def gs_LetTerm_meet : Stmt := inClass (topT 41) 1
def ge_LetTerm_meet : He.DefD := ⟨("LetTerm", some "meet"), "meet", "LetTerm.meet", defArgs gs_LetTerm_meet, defBody gs_LetTerm_meet, defScope gs_LetTerm_meet, [], []⟩
def gs_LetTerm_plain : Stmt := inClass (topT 41) 2
def ge_LetTerm_plain : He.DefD := ⟨("LetTerm", some "plain"), "plain", "LetTerm.plain", defArgs gs_LetTerm_plain, defBody gs_LetTerm_plain, defScope gs_LetTerm_plain, [], []⟩
def gs_SetTerm___init__ : Stmt := inClass (topT 42) 0
def ge_SetTerm___init__ : He.DefD := ⟨("SetTerm", some "__init__"), "__init__", "SetTerm.__init__", defArgs gs_SetTerm___init__, defBody gs_SetTerm___init__, defScope gs_SetTerm___init__, [], []⟩
def gs_SetTerm_meet : Stmt := inClass (topT 42) 1
def ge_SetTerm_meet : He.DefD := ⟨("SetTerm", some "meet"), "meet", "SetTerm.meet", defArgs gs_SetTerm_meet, defBody gs_SetTerm_meet, defScope gs_SetTerm_meet, [], []⟩
def gs_SetTerm_plain : Stmt := inClass (topT 42) 2
def ge_SetTerm_plain : He.DefD := ⟨("SetTerm", some "plain"), "plain", "SetTerm.plain", defArgs gs_SetTerm_plain, defBody gs_SetTerm_plain, defScope gs_SetTerm_plain, [], []⟩
def gs_Program___init__ : Stmt := inClass (topT 43) 0
def ge_Program___init__ : He.DefD := ⟨("Program", some "__init__"), "__init__", "Program.__init__", defArgs gs_Program___init__, defBody gs_Program___init__, defScope gs_Program___init__, [], []⟩
def gs_Program_bodies : Stmt := inClass (topT 43) 1
def ge_Program_bodies : He.DefD := ⟨("Program", some "bodies"), "bodies", "Program.bodies", defArgs gs_Program_bodies, defBody gs_Program_bodies, defScope gs_Program_bodies, [], []⟩
def gs_Program_plain : Stmt := inClass (topT 43) 2
def ge_Program_plain : He.DefD := ⟨("Program", some "plain"), "plain", "Program.plain", defArgs gs_Program_plain, defBody gs_Program_plain, defScope gs_Program_plain, [], []⟩
def fnT : List He.DefD := [ge__wall, ge_within, ge_two_told, ge_walked, ge_plains, ge_leaf_of, ge_thing_term_of, ge_term_of, ge_program_of, ge__law_cell_at, ge__law_mixed, ge__law_tree, ge__law_told, ge__law_houses, ge__law_asked, ge_law, ge_Guest_at_number, ge_Guest_at_truth, ge_Guest_at_name, ge_Guest_at_self, ge_Guest_at_new, ge_Guest_at_elder, ge_Guest_at_field, ge_Guest_at_call, ge_Guest_at_not, ge_Guest_at_two, ge_Guest_at_if, ge_Guest_at_let, ge_Guest_at_set, ge_Hall___init__, ge_Hall_houses, ge_Hall_elders, ge_Hall_younger, ge_Hall_fields, ge_Hall_place, ge_Hall_found, ge_Hall_head, ge_Wait_goes_on, ge_GatherWait___init__, ge_GatherWait_begins, ge_GatherWait_goes_on, ge_GatherWait_gathered, ge_NewWait___init__, ge_NewWait_gathered, ge_CallWait___init__, ge_CallWait_gathered, ge_ElderWait___init__, ge_ElderWait_gathered, ge_TwoWait___init__, ge_TwoWait_gathered, ge_SetWait___init__, ge_SetWait_gathered, ge_FieldWait___init__, ge_FieldWait_goes_on, ge_NotWait_goes_on, ge_IfWait___init__, ge_IfWait_goes_on, ge_LetWait___init__, ge_LetWait_goes_on, ge_LooseWait___init__, ge_LooseWait_goes_on, ge_BackWait___init__, ge_BackWait_goes_on, ge_Walk___init__, ge_Walk_at_number, ge_Walk_at_truth, ge_Walk_at_name, ge_Walk_at_self, ge_Walk_at_new, ge_Walk_at_elder, ge_Walk_at_call, ge_Walk_at_two, ge_Walk_at_set, ge_Walk_at_field, ge_Walk_at_not, ge_Walk_at_if, ge_Walk_at_let, ge_Walk_enter, ge_Walk_goes, ge_Term___init__, ge_Term_meet, ge_Term_plain, ge_Term_parts, ge_Term_depth, ge_Term_size, ge_NumberTerm___init__, ge_NumberTerm_meet, ge_NumberTerm_plain, ge_TruthTerm___init__, ge_TruthTerm_meet, ge_TruthTerm_plain, ge_NameTerm___init__, ge_NameTerm_meet, ge_NameTerm_plain, ge_SelfTerm___init__, ge_SelfTerm_meet, ge_SelfTerm_plain, ge_NewTerm___init__, ge_NewTerm_meet, ge_NewTerm_plain, ge_ElderTerm___init__, ge_ElderTerm_meet, ge_ElderTerm_plain, ge_FieldTerm___init__, ge_FieldTerm_meet, ge_FieldTerm_plain, ge_CallTerm___init__, ge_CallTerm_meet, ge_CallTerm_plain, ge_NotTerm___init__, ge_NotTerm_meet, ge_NotTerm_plain, ge_TwoTerm___init__, ge_TwoTerm_meet, ge_TwoTerm_plain, ge_IfTerm___init__, ge_IfTerm_meet, ge_IfTerm_plain, ge_LetTerm___init__, ge_LetTerm_meet, ge_LetTerm_plain, ge_SetTerm___init__, ge_SetTerm_meet, ge_SetTerm_plain, ge_Program___init__, ge_Program_bodies, ge_Program_plain]
def mAt (f : Nat) : Str × Option Str := match (f : Nat) with
  | 49 => ("Guest", some "at_number")
  | 50 => ("Guest", some "at_truth")
  | 51 => ("Guest", some "at_name")
  | 52 => ("Guest", some "at_self")
  | 53 => ("Guest", some "at_new")
  | 54 => ("Guest", some "at_elder")
  | 55 => ("Guest", some "at_field")
  | 56 => ("Guest", some "at_call")
  | 57 => ("Guest", some "at_not")
  | 58 => ("Guest", some "at_two")
  | 59 => ("Guest", some "at_if")
  | 60 => ("Guest", some "at_let")
  | 61 => ("Guest", some "at_set")
  | 62 => ("Hall", some "__init__")
  | 63 => ("Hall", some "houses")
  | 64 => ("Hall", some "elders")
  | 65 => ("Hall", some "younger")
  | 66 => ("Hall", some "fields")
  | 67 => ("Hall", some "place")
  | 68 => ("Hall", some "found")
  | 69 => ("Hall", some "head")
  | 70 => ("Wait", some "goes_on")
  | 71 => ("GatherWait", some "__init__")
  | 72 => ("GatherWait", some "begins")
  | 73 => ("GatherWait", some "goes_on")
  | 74 => ("GatherWait", some "gathered")
  | 75 => ("NewWait", some "__init__")
  | 76 => ("NewWait", some "gathered")
  | 77 => ("CallWait", some "__init__")
  | 78 => ("CallWait", some "gathered")
  | 79 => ("ElderWait", some "__init__")
  | 80 => ("ElderWait", some "gathered")
  | 81 => ("TwoWait", some "__init__")
  | 82 => ("TwoWait", some "gathered")
  | 83 => ("SetWait", some "__init__")
  | 84 => ("SetWait", some "gathered")
  | 85 => ("FieldWait", some "__init__")
  | 86 => ("FieldWait", some "goes_on")
  | 87 => ("NotWait", some "goes_on")
  | 88 => ("IfWait", some "__init__")
  | 89 => ("IfWait", some "goes_on")
  | 90 => ("LetWait", some "__init__")
  | 91 => ("LetWait", some "goes_on")
  | 92 => ("LooseWait", some "__init__")
  | 93 => ("LooseWait", some "goes_on")
  | 94 => ("BackWait", some "__init__")
  | 95 => ("BackWait", some "goes_on")
  | 96 => ("Walk", some "__init__")
  | 97 => ("Walk", some "at_number")
  | 98 => ("Walk", some "at_truth")
  | 99 => ("Walk", some "at_name")
  | 100 => ("Walk", some "at_self")
  | 101 => ("Walk", some "at_new")
  | 102 => ("Walk", some "at_elder")
  | 103 => ("Walk", some "at_call")
  | 104 => ("Walk", some "at_two")
  | 105 => ("Walk", some "at_set")
  | 106 => ("Walk", some "at_field")
  | 107 => ("Walk", some "at_not")
  | 108 => ("Walk", some "at_if")
  | 109 => ("Walk", some "at_let")
  | 110 => ("Walk", some "enter")
  | 111 => ("Walk", some "goes")
  | 112 => ("Term", some "__init__")
  | 113 => ("Term", some "meet")
  | 114 => ("Term", some "plain")
  | 115 => ("Term", some "parts")
  | 116 => ("Term", some "depth")
  | 117 => ("Term", some "size")
  | 118 => ("NumberTerm", some "__init__")
  | 119 => ("NumberTerm", some "meet")
  | 120 => ("NumberTerm", some "plain")
  | 121 => ("TruthTerm", some "__init__")
  | 122 => ("TruthTerm", some "meet")
  | 123 => ("TruthTerm", some "plain")
  | 124 => ("NameTerm", some "__init__")
  | 125 => ("NameTerm", some "meet")
  | 126 => ("NameTerm", some "plain")
  | 127 => ("SelfTerm", some "__init__")
  | 128 => ("SelfTerm", some "meet")
  | 129 => ("SelfTerm", some "plain")
  | 130 => ("NewTerm", some "__init__")
  | 131 => ("NewTerm", some "meet")
  | 132 => ("NewTerm", some "plain")
  | 133 => ("ElderTerm", some "__init__")
  | 134 => ("ElderTerm", some "meet")
  | 135 => ("ElderTerm", some "plain")
  | 136 => ("FieldTerm", some "__init__")
  | 137 => ("FieldTerm", some "meet")
  | 138 => ("FieldTerm", some "plain")
  | 139 => ("CallTerm", some "__init__")
  | 140 => ("CallTerm", some "meet")
  | 141 => ("CallTerm", some "plain")
  | 142 => ("NotTerm", some "__init__")
  | 143 => ("NotTerm", some "meet")
  | 144 => ("NotTerm", some "plain")
  | 145 => ("TwoTerm", some "__init__")
  | 146 => ("TwoTerm", some "meet")
  | 147 => ("TwoTerm", some "plain")
  | 148 => ("IfTerm", some "__init__")
  | 149 => ("IfTerm", some "meet")
  | 150 => ("IfTerm", some "plain")
  | 151 => ("LetTerm", some "__init__")
  | 152 => ("LetTerm", some "meet")
  | 153 => ("LetTerm", some "plain")
  | 154 => ("SetTerm", some "__init__")
  | 155 => ("SetTerm", some "meet")
  | 156 => ("SetTerm", some "plain")
  | 157 => ("Program", some "__init__")
  | 158 => ("Program", some "bodies")
  | 159 => ("Program", some "plain")
  | _ => ("", none)
def atT (f : Nat) : Str × Option Str := if gfT f = true then (nmT f, none) else mAt f
def gfl : List Nat := [n__wall, n_within, n_two_told, n_walked, n_plains, n_leaf_of, n_thing_term_of, n_term_of, n_program_of, n__law_cell_at, n__law_mixed, n__law_tree, n__law_told, n__law_houses, n__law_asked, n_law]
def exT (K : PySem.W.Frag) : Bool := chkC nmT conT K && cdsT.all fun p => chkD nmT atT p.1 p.2 K
def faT : List He.Fa := bltNames.map He.Fa.free ++ (gfl.map fun f => He.Fa.glo (nmT f))
end Py

set_option Elab.async false
set_option linter.all false
set_option maxRecDepth 100000
set_option maxHeartbeats 0
/-! The head of law 44 (printed by gen.py). -/
namespace Py
open PySem PySem.Spec PySem.W PySem.Calls PyProof.Rows HandSHeadRun L2
abbrev R : PySem.W.OpenRow := PySem.W.OpenLaw.row PySem.Challenge.rw_elderhouse_k44_the_things_own_house
abbrev hk : PySem.W.Hook := hookP 6 faT fnT exT
def ob (s : PySem.W.SharedT) : AlP := obsP 6 faT fnT exT (HandSHeadRun.getT s)
theorem ob_eq (s : PySem.W.SharedT) : ob s = hk.obs s.abs := obsP_eq (HandSHeadRun.getT_eq s)
def tnames0 : List Str := ["_wall", "Guest", "Hall", "GREATEST", "within", "two_told", "Wait", "GatherWait", "NewWait", "CallWait", "ElderWait", "TwoWait", "SetWait", "FieldWait", "NotWait", "IfWait", "LetWait", "LooseWait", "BackWait", "MOST_OPEN", "Walk", "walked", "Term", "plains", "NumberTerm", "TruthTerm", "NameTerm", "SelfTerm", "NewTerm", "ElderTerm"]
def tnames1 : List Str := ["FieldTerm", "CallTerm", "NotTerm", "TwoTerm", "IfTerm", "LetTerm", "SetTerm", "Program", "leaf_of", "thing_term_of", "term_of", "program_of", "_law_cell_at", "_law_mixed", "_law_tree", "_law_told", "_law_houses", "_law_asked"]
def topNames : List Str := tnames0 ++ tnames1
theorem join3 {α β γ δ : Type} {o : Option α} {f : α → β} {g : α → γ} {k : α → δ} {a : β} {b : γ} {c : δ} (p : o.map f = some a) (q : o.map g = some b) (r : o.map k = some c) : (o.map fun s => (f s, g s, k s)) = some (a, b, c) := by
  cases o with
  | none => cases p
  | some s =>
    cases Option.some.inj p
    cases Option.some.inj q
    cases Option.some.inj r
    rfl
/-- the run's equation, its first part -/
def RunE1 (r : PySem.W.OpenRow) (M : Nat) (w : World) : Prop := ∀ os : OsState, ((endF (stepQ (denQ tabQ) r.prog w) M r.prog w os).map fun s => looksF r.prog (boot_heap w.params) s.abs) = some true
/-- its middle part -/
def RunE2 (r : PySem.W.OpenRow) (q : Program) (M : Nat) (loose : List Str) (w : World) : Prop := ∀ os : OsState, ((endF (stepQ (denQ tabQ) r.prog w) M r.prog w os).map fun s => seenQ q loose (importedModules r.prog.main.body) (fun s => xlAt q [] s && recOk r.toRowW.records s) s.abs) = some (openGood q loose)
/-- its last part -/
def RunE3 (r : PySem.W.OpenRow) (H : PySem.W.Hook) (ob : PySem.W.SharedT → H.α) (M : Nat) (w : World) : Prop := ∀ os : OsState, ((endF (stepQ (denQ tabQ) r.prog w) M r.prog w os).map fun s => ob s) = some (H.val w)
theorem run_of {r : PySem.W.OpenRow} {q : Program} {H : PySem.W.Hook} {ob : PySem.W.SharedT → H.α} {M : Nat} {loose : List Str} {w : World} (a : RunE1 r M w) (b : RunE2 r q M loose w) (c : RunE3 r H ob M w) : HandSHeadRun.RunEq r q H ob M loose w := fun os => join3 (a os) (b os) (c os)
theorem run3 (w : World) : RunE3 R hk ob 100000 w := by
  intro os
  kernel_rfl
theorem run1 (w : World) : RunE1 R 100000 w := by
  intro os
  kernel_rfl
theorem run2 (w : World) : RunE2 R (PySem.W.view R.prog [56]) 100000 topNames w := by
  intro os
  kernel_rfl
theorem run (w : World) : HandSHeadRun.RunEq R (PySem.W.view R.prog [56]) hk ob 100000 topNames w := run_of (run1 w) (run2 w) (run3 w)
end Py

set_option Elab.async false
set_option linter.all false
set_option maxRecDepth 100000
set_option maxHeartbeats 4000000
/-! PyGuard: defs, calls and the law's call where no guard is under way. -/
namespace Py
open PySem PySem.Spec PyProof.Rows L2
/-- a def's promise, wherever nothing is being shown -/
structure FnG (P : Program) (w : World) (K : PySem.W.Frag) (mg : Str → Option Value) (base : Heap) (C : CXT) (k : Nat) (f : Addr) (fd : FuncData) (ps : List Str) (sp : Sp) : Prop where
  many : ∀ {vs H Q E}, sp vs H Q E → vs.length = ps.length
  does : ∀ {A : Around} {outer : List Env} {s : Shared} {H : Hp} {args : Args} {us : List Value} {vs : List V} {Q : VK} {E : XK}, A.guards = some [] → Room k A → Env0 P w K mg base A outer s H →
    BindsTo s fd args (ps.zip us) → Vals vs us → sp vs H Q E → codeAny (model P w) A (.call (.ref f) args) (CR C outer P w H s Q E) s
section
variable {P : Program} {w : World} {K : PySem.W.Frag} {mg : Str → Option Value} {base : Heap} {C : CXT} {k : Nat} {f : Addr} {fd : FuncData} {sp : Sp}
theorem fnG_of {x qual : Str} {params : Arguments} {body : List Stmt} {scope : Scope} {dvs : List V} {kws : List (Str × V)} {N ps : List Str} (F : FunD K x qual params body scope dvs kws f fd) (S : FnScope N ps scope) (many : ∀ {vs H Q E}, sp vs H Q E → vs.length = ps.length)
    (B : ∀ (cdv : Value) (A : Around) (outer : List Env) (s : Shared) (H : Hp) (vs : List V) (Q : VK) (E : XK), A.guards = some [] → Room k (A.deeper (envOfC qual scope s.heap.objs.size f cdv)) → sp vs H Q E →
      ∃ t, PSs (cxOf C P w K mg base N qual scope f cdv A outer s H E) body t ∧ t { nx := fun _ H' => Q .non H', rt := Q } (L2.start N vs) H) : FnG P w K mg base C (k + 1) f fd ps sp := by
  obtain ⟨_, _, _, _, _, _, _, cdv, _, _, rfl, at_, code, _, _⟩ := F.ex
  refine ⟨many, fun {A outer s H args us vs Q E} hg room e0 bound vals h => ?_⟩
  have old : ∀ b o, base.get? b = some o → s.heap.get? b = some o := fun b o e => (e0.bs b o e).1
  have inn := e0.mod.kin.keeps old
  have deep := e0.mod.nolimit.keeps old
  have kinds : ∀ p ∈ ps.zip us, scope.names.lookup p.1 = some .local ∨ (scope.names.lookup p.1 = some .cell ∧ ((cellsFrom (s.heap.objs.size + 1) scope.names []).lookup p.1).isSome = true) := by
    rintro ⟨n, v⟩ hp
    exact (S.par n (List.of_mem_zip hp).1).imp id fun q => ⟨q, PySem.W.cellsFrom_some _ _ _ (.inl q)⟩
  refine codeAny_call_function room.depth (inn _ _ at_) rfl S.co S.gen rfl (PySem.W.codeRec_of inn code) (bound _ _ _ _ (wpAny_newFunctionEnv_cells S.kind kinds ?_))
  intro env he s1 x
  subst he
  refine ⟨deep.keeps x.toInCall.keep, codeAny_func ?_⟩
  obtain ⟨t, ht, q⟩ := B cdv A outer s H vs Q E hg (room.deeper _) h
  refine wpAny_mono (ht.run [] s1 _ H _ (inv_start S room.hd e0 (many h) vals x) q) ?_ fun _ _ z => z
  rintro (_ | _ | _ | u) s' z
  · obtain ⟨_, H', J, q⟩ := z
    exact ⟨.non, H', J.os, J.bare, J.base, J.hok, rfl, q⟩
  · obtain ⟨_, _, _, q⟩ := z
    exact q.elim
  · obtain ⟨_, _, _, q⟩ := z
    exact q.elim
  · obtain ⟨v, _, H', J, r, q⟩ := z
    exact ⟨v, H', J.os, J.bare, J.base, J.hok, r, q⟩
end
section
variable {X : Cx} {C : CXT} {k : Nat} {f : Addr} {fd : FuncData} {ps : List Str} {sp : Sp} {dvs : List V} {ds : List Value} {E : L2.St → XK} {pins : List (Addr × Obj)} {σ : L2.St} {H : Hp} {s : Shared} {Q : VK} {us : List Value} {vs : List V}
theorem run_fnG (F : FnG X.prog X.w X.K X.mg X.base C k f fd ps sp) (hg : X.A.guards = some []) (room : Room k X.A) (hb : Binds X.K fd ps ds) (hd : Vals dvs ds) (air : PassesAt C X σ (E σ)) (I : Inv X pins σ H s) (r : Vals vs us) (h : sp (vs ++ dvs) H Q (E σ)) :
    wpAny (model X.prog X.w) X.A (call (.ref f) us) (EP X pins σ Q) X.xe s := by
  have both := r.append hd
  have go := F.does (outer := X.stack) (args := ⟨us, []⟩) hg room I.env0 (hb s us I.kIn (both.length.symm.trans (F.many h))) both h
  refine wpAny_call (codeAny_mono go ?_)
  rintro (e | fl) s' z
  · exact air pins H s e s' I z
  · cases fl <;> first | exact I.after z | exact z.elim
/-- an instance made -/
theorem run_makeG {Ca : Addr} {E : XK} (M : Mk X.K Ca f) (F : FnG X.prog X.w X.K X.mg X.base C k f fd ps sp) (hg : X.A.guards = some []) (room : Room (k + 1) X.A) (hb : Binds X.K fd ps ds) (hd : Vals dvs ds) (air : PassesAt C X σ E) (I : Inv X pins σ H s) (r : Vals vs us)
    (h : ∀ x dx, H x = none → H dx = none → dx ≠ x → sp (.ref x :: (vs ++ dvs)) (upd (upd H dx (.own x)) x (.ins Ca dx [])) (fun v H2 => v = .non ∧ Q (.ref x) H2) E) : wpAny (model X.prog X.w) X.A (call (.ref Ca) us) (EP X pins σ Q) X.xe s := by
  have q := h (s.heap.objs.size + 1) s.heap.objs.size (I.hok.fresh (Nat.le_succ _)) (I.hok.fresh (Nat.le_refl _)) (Nat.ne_of_lt (Nat.lt_succ_self _))
  have J := Inv.made (C := Ca) I
  have both : Vals (V.ref (s.heap.objs.size + 1) :: (vs ++ dvs)) (Value.ref (s.heap.objs.size + 1) :: (us ++ ds)) := .cons rfl (r.append hd)
  have gs : (X.A.under (.builtin "type.__call__" ⟨.ref Ca :: us, []⟩)).guards = some [] := by
    show pushGuards (Code.guards (.builtin "type.__call__" ⟨.ref Ca :: us, []⟩)) X.A.guards = some []
    rw [hg]; rfl
  have go := F.does (outer := X.stack) (args := ⟨Value.ref (s.heap.objs.size + 1) :: us, []⟩) gs (room.make Ca us []) (J.env0.make Ca us []) (hb _ (Value.ref (s.heap.objs.size + 1) :: us) J.kIn (both.length.symm.trans (F.many q))) both q
  refine wpAny_call (make_map (f := f) I.kIn M.makes M.init (beq_iff_eq.mp M.fn) (codeAny_mono go ?_))
  rintro (e | fl) s' z
  · exact air pins _ _ e s' J z
  · cases fl with
    | ret u =>
      obtain ⟨v, H', I3, rv, ev, q3⟩ := J.after z
      subst ev
      exact ⟨rv, V.ref (s.heap.objs.size + 1), H', I3, rfl, q3⟩
    | _ => exact z.elim
theorem run_makeNG {Ca : Addr} {E : XK} {n : Nat} {ks : List Str} {g : List Value → List Value → List Value} {gV : List V → List V → List V} {ws : List Value} {zs : List V} (M : Mk X.K Ca f) (F : FnG X.prog X.w X.K X.mg X.base C k f fd ps sp) (hg : X.A.guards = some []) (room : Room (k + 1) X.A) (hb : KBn X.K fd ps (n + 1) ks g gV) (air : PassesAt C X σ E) (I : Inv X pins σ H s) (r : Vals vs us) (rz : Vals zs ws) (l1 : vs.length = n) (l2 : zs.length = ks.length)
    (h : ∀ x dx, H x = none → H dx = none → dx ≠ x → sp (gV (.ref x :: vs) zs) (upd (upd H dx (.own x)) x (.ins Ca dx [])) (fun v H2 => v = .non ∧ Q (.ref x) H2) E) : wpAny (model X.prog X.w) X.A (call (.ref Ca) us (ks.zip ws)) (EP X pins σ Q) X.xe s := by
  have q := h (s.heap.objs.size + 1) s.heap.objs.size (I.hok.fresh (Nat.le_succ _)) (I.hok.fresh (Nat.le_refl _)) (Nat.ne_of_lt (Nat.lt_succ_self _))
  have J := Inv.made (C := Ca) I
  have r1 : Vals (V.ref (s.heap.objs.size + 1) :: vs) (Value.ref (s.heap.objs.size + 1) :: us) := .cons rfl r
  have both := hb.rel r1 rz
  have e1 : (Value.ref (s.heap.objs.size + 1) :: us).length = n + 1 := r1.length.symm.trans (congrArg Nat.succ l1)
  have e2 : ws.length = ks.length := rz.length.symm.trans l2
  have gs : (X.A.under (.builtin "type.__call__" ⟨.ref Ca :: us, ks.zip ws⟩)).guards = some [] := by
    show pushGuards (Code.guards (.builtin "type.__call__" ⟨.ref Ca :: us, ks.zip ws⟩)) X.A.guards = some []
    rw [hg]; rfl
  have go := F.does (outer := X.stack) (args := ⟨Value.ref (s.heap.objs.size + 1) :: us, ks.zip ws⟩) gs (room.make Ca us (ks.zip ws)) (J.env0.make Ca us (ks.zip ws)) (hb.to _ (Value.ref (s.heap.objs.size + 1) :: us) ws J.kIn e1 e2) both q
  refine wpAny_call (make_map (f := f) I.kIn M.makes M.init (beq_iff_eq.mp M.fn) (codeAny_mono go ?_))
  rintro (e | fl) s' z
  · exact air pins _ _ e s' J z
  · cases fl with
    | ret u =>
      obtain ⟨v, H', I3, rv, ev, q3⟩ := J.after z
      subst ev
      exact ⟨rv, V.ref (s.heap.objs.size + 1), H', I3, rfl, q3⟩
    | _ => exact z.elim
end
/-- the law's call -/
theorem law_callG {P : Program} {w : World} {K : PySem.W.Frag} {mg mb : Str → Option Value} {C : CXT} {k : Nat} {fa a : Addr} {fd : FuncData} {x : Str} {sp : Sp} {s₁ : Shared} {vs : List Value} {ns : List Int}
    (KX : K.In s₁.heap) (hns : s₁.heap.Ns mainGlobals mg) (hb : s₁.heap.Ns builtinsNs mb) (hbb : ∀ x : Str, x ≠ "__name__" → mb x = bootBuiltins x) (hlim : s₁.heap.NoLimit) (hg : s₁.gens = #[])
    (ha : s₁.heap.get? a = some { cls := .type "list", data := .seq vs.toArray }) (hi : IntsAre vs ns) (hl : ns.length ≤ sizeLine) (room : Room k callerA)
    (F : ∀ base : Heap, K.In base → base.Ns mainGlobals mg → FnG P w K mg base C k fa fd [x] sp) (hbind : ∀ (s : Shared) (u : Value), BindsTo s fd ⟨[u], []⟩ [(x, u)])
    (hsp : ∀ H : Hp, Only H → SqL K H a (ns.map V.int) → sp [.ref a] H (fun v _ => v = .bl true) fun _ _ _ => False) (none_ : ∀ H e s', C [] H s₁ (fun _ _ _ => False) e s' → False) :
    codeAny (model P w) callerA (.call (.ref fa) ⟨[.ref a], []⟩) (fun r s' => r = .ok (.ret (.bool true)) ∧ OldK s₁.heap s'.heap ∧ s'.os = s₁.os ∧ AllBare s'.gens) s₁ := by
  have rv := vals_ints hi
  have hsz : (ns.map V.int).length ≤ sizeLine := by rw [List.length_map]; exact hl
  have hvs : vs.length = ns.length := hi.length
  obtain ⟨H, hH⟩ : ∃ H : Hp, H = fun b => if b = a ∧ K.lookup a = none then some (.frz { cls := .type "list", data := .seq vs.toArray } (.lst (ns.map V.int))) else none := ⟨_, rfl⟩
  have at_ : ∀ {b u}, H b = some u → (b = a ∧ K.lookup a = none) ∧ u = .frz { cls := .type "list", data := .seq vs.toArray } (.lst (ns.map V.int)) := fun {b u} z => by
    rw [hH] at z
    dsimp only at z
    split at z
    · rename_i h; cases z; exact ⟨h, rfl⟩
    · cases z
  have free : ∀ {b o}, s₁.heap.get? b = some o → (∀ n, o.data ≠ .seq vs.toArray n) → H b = none := fun {b o} e n => by
    cases q : H b with
    | none => rfl
    | some u =>
      obtain ⟨⟨rfl, _⟩, _⟩ := at_ q
      rw [ha] at e; cases e
      exact absurd rfl (n _)
  have only : Only H := fun b => by
    cases q : H b with
    | none => exact .inl rfl
    | some u => exact .inr ⟨_, _, congrArg some (at_ q).2⟩
  have list : SqL K H a (ns.map V.int) := by
    cases q : K.lookup a with
    | none => exact .inl (.inr ⟨_, by rw [hH]; exact if_pos ⟨rfl, q⟩⟩)
    | some o =>
      have e := KX a o q
      rw [ha] at e; cases e
      exact .inr ⟨_, vs.toArray, _, q, rfl, rfl, rfl, by rw [List.size_toArray, hvs]; exact hl, by simpa using rv⟩
  have okH : HOk P w H s₁.heap := fun b u z => by
    obtain ⟨⟨rfl, _⟩, rfl⟩ := at_ z
    exact ⟨ha, hsz, vs, _, rv, ha⟩
  have kept : ∀ {b m}, s₁.heap.Ns b m → (hidT s₁.heap H).Ns b m := fun {b m} ⟨o, es, ep, e, d, r⟩ => ⟨o, es, ep, hidT_get e (free e fun n z => by rw [d] at z; cases z), d, r⟩
  have inn : K.In (hidT s₁.heap H) := fun b o e => hidT_get (KX b o e) (by
    cases q : H b with
    | none => rfl
    | some u => obtain ⟨⟨rfl, n⟩, _⟩ := at_ q; rw [n] at e; cases e)
  have md : Mod K mg (hidT s₁.heap H) := ⟨inn, kept hns, ⟨mb, kept hb, hbb⟩, let ⟨mc, h1, h2⟩ := hlim; ⟨mc, kept h1, h2⟩⟩
  have e0 : Env0 P w K mg (hidT s₁.heap H) callerA [] s₁ H := ⟨rfl, md, fun b o e => of_hidT e, Nat.le_of_eq (hidT_size _ _), trivial, (fun b z => nomatch (show b ∈ ([] : List Addr) from z)), okH, .of_eq hg⟩
  refine codeAny_mono ((F _ inn (kept hns)).does (us := [.ref a]) (vs := [.ref a]) rfl room e0 (hbind s₁ (.ref a)) (.cons rfl .nil) (hsp H only list)) ?_
  rintro (e | fl) s' z
  · exact (none_ H e s' z).elim
  · cases fl with
    | ret u =>
      obtain ⟨v, H', os, bare, un, okH', r, q⟩ := z
      cases (show v = .bl true from q)
      cases (show u = Value.bool true from r)
      refine ⟨rfl, OldK.of_keep fun b o e => ?_, os, bare⟩
      cases q : H b with
      | none => exact un.keep b o e q (fun z => nomatch (show b ∈ ([] : List Addr) from z)) (fun z => nomatch (show b ∈ ([] : List Addr) from z))
      | some u =>
        obtain ⟨_, rfl⟩ := at_ q
        obtain ⟨e1, _⟩ := okH b _ q
        obtain ⟨e2, _⟩ := okH' b _ (un.frzs b _ _ q)
        rw [e] at e1; cases e1
        exact e2
    | _ => exact z.elim
end Py

set_option Elab.async false
set_option linter.all false
set_option maxRecDepth 100000
set_option maxHeartbeats 4000000
/-! PySound: the reading of PyDen is sound for the hand layer. -/
namespace Py
open PySem PySem.Spec PyProof.Rows L2

/-! ### how abstract values and heaps stand for the layer's -/
mutual
def RV (K : PySem.W.Frag) (H : Hp) (m : List Addr) : PV → V → Prop
  | .non, v => v = .non
  | .bl b, v => v = .bl b
  | .int i, v => v = .int i
  | .str s, v => v = .str s
  | .ref a, v => ∃ p, m[a]? = some p ∧ v = .ref p
  | .tup xs, v => ∃ p vs, v = .ref p ∧ SqT K H p vs ∧ RVs K H m xs vs
def RVs (K : PySem.W.Frag) (H : Hp) (m : List Addr) : List PV → List V → Prop
  | [], vs => vs = []
  | x :: xs, vs => ∃ v r, vs = v :: r ∧ RV K H m x v ∧ RVs K H m xs r
end
/-- a key -/
def keyV : PV → Option Key
  | .int i => some (.inl i)
  | .str s => some (.inr s)
  | _ => none
def RKs (K : PySem.W.Frag) (H : Hp) (m : List Addr) : List (PV × PV) → List (Key × V) → Prop
  | [], vs => vs = []
  | (x, y) :: xs, vs => ∃ k v r, vs = (k, v) :: r ∧ keyV x = some k ∧ RV K H m y v ∧ RKs K H m xs r
def optR (K : PySem.W.Frag) (H : Hp) (m : List Addr) : Option PV → Option V → Prop
  | some x, some v => RV K H m x v
  | none, none => True
  | _, _ => False
/-- a list of the written part -/
def KL (K : PySem.W.Frag) (a : Addr) (xs : List V) : Prop := ∃ (o : Obj) (its : Array Value) (n : Nat), K.lookup a = some o ∧ o.cls = .type "list" ∧ o.dict = none ∧ o.data = .seq its n ∧ its.size ≤ sizeLine ∧ Vals xs its.toList
/-- what is known of the module: names, class addresses -/
structure Me where
  nm : Nat → Str
  gf : Nat → Bool
  G : Sig
structure Mo extends Me where
  K : PySem.W.Frag
  ca : Nat → Addr
  fa : Nat → Addr
def RO (M : Mo) (H : Hp) (m : List Addr) : PO → Addr → Prop
  | .lst xs, p => ∃ vs, H p = some (.lst vs) ∧ RVs M.K H m xs vs
  | .frl xs, p => ∃ vs, ((∃ o, H p = some (.frz o (.lst vs))) ∨ KL M.K p vs) ∧ RVs M.K H m xs vs
  | .dic kvs, p => ∃ ks, H p = some (.dK ks) ∧ RKs M.K H m kvs ks
  | .ins c fs, p => ∃ dx gs cd, H p = some (.ins (M.ca c) dx gs) ∧ M.G.cls c = some cd ∧ (∀ f, cd.fields.contains f = true → optR M.K H m (getN f fs) (gs.lookup (M.nm f))) ∧
      gs.length = fs.length ∧ ∀ s ∈ gs.map (·.1), s ∈ cd.fields.map M.nm
def isFrl : PO → Bool
  | .frl _ => true
  | _ => false
structure RH (M : Mo) (H : Hp) (m : List Addr) (h : PH) : Prop where
  len : m.length = h.length
  obj : ∀ (a : Nat) (o : PO) (p : Addr), h[a]? = some o → m[a]? = some p → RO M H m o p
  inj : ∀ (a b : Nat) (p : Addr) (o u : PO), m[a]? = some p → m[b]? = some p → h[a]? = some o → h[b]? = some u → isFrl o = false → isFrl u = false → a = b
def RL (K : PySem.W.Frag) (H : Hp) (m : List Addr) (l : Loc) (σ : L2.St) : Prop := l.length = σ.length ∧ ∀ (i : Nat) (v : PV), l[i]? = some (some v) → ∃ w, σ[i]? = some (some w) ∧ RV K H m v w
/-- tuples stay -/
def Kp (K : PySem.W.Frag) (H H' : Hp) : Prop := ∀ p vs, SqT K H p vs → SqT K H' p vs
def Ex (m m' : List Addr) : Prop := ∀ (a : Nat) (p : Addr), m[a]? = some p → m'[a]? = some p
theorem Kp.refl (K : PySem.W.Frag) (H : Hp) : Kp K H H := fun _ _ h => h
theorem Kp.trans {K : PySem.W.Frag} {H H1 H2 : Hp} (a : Kp K H H1) (b : Kp K H1 H2) : Kp K H H2 := fun _ _ h => b _ _ (a _ _ h)
theorem Ex.refl (m : List Addr) : Ex m m := fun _ _ h => h
theorem Ex.trans {m m1 m2 : List Addr} (a : Ex m m1) (b : Ex m1 m2) : Ex m m2 := fun _ _ h => b _ _ (a _ _ h)
theorem Ex.app (m : List Addr) (p : Addr) : Ex m (m ++ [p]) := fun a q h => by
  rw [List.getElem?_append_left (List.getElem?_eq_some_iff.mp h).1]
  exact h
theorem Kp.upd_new {K : PySem.W.Frag} {H : Hp} {p : Addr} {o : HO} (h : H p = none) : Kp K H (upd H p o) := fun q vs s => by
  rcases s with (s | ⟨ob, s⟩) | s
  · exact .inl (.inl (by rw [upd_ne (ne_of_none s h)]; exact s))
  · exact .inl (.inr ⟨ob, by rw [upd_ne (ne_of_none s h)]; exact s⟩)
  · exact .inr s
def notTup : HO → Bool
  | .tup _ => false
  | .frz _ _ => false
  | _ => true
theorem Kp.upd_old {K : PySem.W.Frag} {H : Hp} {p : Addr} {o u : HO} (h : H p = some u) (n : notTup u = true) : Kp K H (upd H p o) := fun q vs s => by
  have ne : ∀ z, H q = some z → notTup z = false → q ≠ p := fun z e nz e2 => by
    subst e2; rw [h] at e; cases e; rw [n] at nz; cases nz
  rcases s with (s | ⟨ob, s⟩) | s
  · exact .inl (.inl (by rw [upd_ne (ne _ s rfl)]; exact s))
  · exact .inl (.inr ⟨ob, by rw [upd_ne (ne _ s rfl)]; exact s⟩)
  · exact .inr s
mutual
theorem RV.mono {K : PySem.W.Frag} {H H' : Hp} {m m' : List Addr} (k : Kp K H H') (e : Ex m m') : ∀ (x : PV) (v : V), RV K H m x v → RV K H' m' x v
  | .non, v, h => h
  | .bl b, v, h => h
  | .int i, v, h => h
  | .str s, v, h => h
  | .ref a, v, h => by obtain ⟨p, a, b⟩ := h; exact ⟨p, e _ _ a, b⟩
  | .tup xs, v, h => by obtain ⟨p, vs, a, b, c⟩ := h; exact ⟨p, vs, a, k _ _ b, RVs.mono k e xs vs c⟩
theorem RVs.mono {K : PySem.W.Frag} {H H' : Hp} {m m' : List Addr} (k : Kp K H H') (e : Ex m m') : ∀ (x : List PV) (v : List V), RVs K H m x v → RVs K H' m' x v
  | [], v, h => h
  | x :: xs, v, h => by obtain ⟨w, r, a, b, c⟩ := h; exact ⟨w, r, a, RV.mono k e x w b, RVs.mono k e xs r c⟩
end
theorem RKs.mono {K : PySem.W.Frag} {H H' : Hp} {m m' : List Addr} (k : Kp K H H') (e : Ex m m') : ∀ (x : List (PV × PV)) (v : List (Key × V)), RKs K H m x v → RKs K H' m' x v
  | [], v, h => h
  | (x, y) :: xs, v, h => by obtain ⟨w, u, r, a, b, c, d⟩ := h; exact ⟨w, u, r, a, b, RV.mono k e y u c, RKs.mono k e xs r d⟩
theorem optR.mono {K : PySem.W.Frag} {H H' : Hp} {m m' : List Addr} (k : Kp K H H') (e : Ex m m') : ∀ (x : Option PV) (v : Option V), optR K H m x v → optR K H' m' x v
  | some x, some v, h => RV.mono k e x v h
  | none, none, _ => trivial
  | some _, none, h => h.elim
  | none, some _, h => h.elim
theorem RL.mono {K : PySem.W.Frag} {H H' : Hp} {m m' : List Addr} {l : Loc} {σ : L2.St} (k : Kp K H H') (e : Ex m m') (r : RL K H m l σ) : RL K H' m' l σ :=
  ⟨r.1, fun i v h => let ⟨w, a, b⟩ := r.2 i v h; ⟨w, a, b.mono k e _ _⟩⟩
theorem RVs.len {K : PySem.W.Frag} {H : Hp} {m : List Addr} : ∀ {xs : List PV} {vs : List V}, RVs K H m xs vs → xs.length = vs.length
  | [], vs, h => by cases (show vs = [] from h); rfl
  | x :: xs, vs, h => by obtain ⟨v, r, a, _, c⟩ := h; subst a; rw [List.length_cons, List.length_cons, RVs.len c]
theorem RVs.get {K : PySem.W.Frag} {H : Hp} {m : List Addr} : ∀ {xs : List PV} {vs : List V} {i : Nat} {x : PV}, RVs K H m xs vs → xs[i]? = some x → ∃ v, vs[i]? = some v ∧ RV K H m x v
  | [], vs, i, x, h, e => by simp at e
  | y :: ys, vs, 0, x, h, e => by
    obtain ⟨v, r, a, b, c⟩ := h
    subst a
    simp at e; subst e
    exact ⟨v, rfl, b⟩
  | y :: ys, vs, i + 1, x, h, e => by
    obtain ⟨v, r, a, b, c⟩ := h
    subst a
    obtain ⟨w, p, q⟩ := RVs.get (i := i) c (by simpa using e)
    exact ⟨w, by simpa using p, q⟩
theorem RVs.app {K : PySem.W.Frag} {H : Hp} {m : List Addr} : ∀ {xs ys : List PV} {vs ws : List V}, RVs K H m xs vs → RVs K H m ys ws → RVs K H m (xs ++ ys) (vs ++ ws)
  | [], ys, vs, ws, h, g => by cases (show vs = [] from h); exact g
  | x :: xs, ys, vs, ws, h, g => by obtain ⟨v, r, a, b, c⟩ := h; subst a; exact ⟨v, r ++ ws, rfl, b, RVs.app c g⟩
theorem RVs.one {K : PySem.W.Frag} {H : Hp} {m : List Addr} {x : PV} {v : V} (h : RV K H m x v) : RVs K H m [x] [v] := ⟨v, [], rfl, h, rfl⟩
theorem RVs.drop {K : PySem.W.Frag} {H : Hp} {m : List Addr} : ∀ {xs : List PV} {vs : List V} (n : Nat), RVs K H m xs vs → RVs K H m (xs.drop n) (vs.drop n)
  | xs, vs, 0, h => h
  | [], vs, n + 1, h => by cases (show vs = [] from h); exact rfl
  | x :: xs, vs, n + 1, h => by obtain ⟨v, r, a, b, c⟩ := h; subst a; exact RVs.drop n c
theorem RVs.take {K : PySem.W.Frag} {H : Hp} {m : List Addr} : ∀ {xs : List PV} {vs : List V} (n : Nat), RVs K H m xs vs → RVs K H m (xs.take n) (vs.take n)
  | xs, vs, 0, h => rfl
  | [], vs, n + 1, h => by cases (show vs = [] from h); exact rfl
  | x :: xs, vs, n + 1, h => by obtain ⟨v, r, a, b, c⟩ := h; subst a; exact ⟨v, r.take n, rfl, b, RVs.take n c⟩
theorem RVs.setI {K : PySem.W.Frag} {H : Hp} {m : List Addr} {y : PV} {w : V} (hy : RV K H m y w) : ∀ {xs : List PV} {vs : List V} (i : Nat), RVs K H m xs vs → RVs K H m (xs.set i y) (vs.set i w)
  | [], vs, i, h => by cases (show vs = [] from h); exact rfl
  | x :: xs, vs, 0, h => by obtain ⟨v, r, a, b, c⟩ := h; subst a; exact ⟨w, r, rfl, hy, c⟩
  | x :: xs, vs, i + 1, h => by obtain ⟨v, r, a, b, c⟩ := h; subst a; exact ⟨v, r.set i w, rfl, b, RVs.setI hy i c⟩
theorem RO.mono {M : Mo} {H H' : Hp} {m m' : List Addr} {o : PO} {p : Addr} (k : Kp M.K H H') (e : Ex m m') (hp : ∀ u, H p = some u → H' p = some u) (r : RO M H m o p) : RO M H' m' o p := by
  cases o with
  | lst xs => obtain ⟨vs, a, b⟩ := r; exact ⟨vs, hp _ a, b.mono k e _ _⟩
  | frl xs =>
    obtain ⟨vs, a, b⟩ := r
    refine ⟨vs, ?_, b.mono k e _ _⟩
    rcases a with ⟨o, a⟩ | a
    · exact .inl ⟨o, hp _ a⟩
    · exact .inr a
  | dic kvs => obtain ⟨vs, a, b⟩ := r; exact ⟨vs, hp _ a, b.mono k e _ _⟩
  | ins c fs => obtain ⟨dx, gs, cd, a, b, c1, d⟩ := r; exact ⟨dx, gs, cd, hp _ a, b, fun f hf => (c1 f hf).mono k e _ _, d⟩
/-- the tracked content of an object that is no frozen list -/
theorem RO.at {M : Mo} {H : Hp} {m : List Addr} {o : PO} {p : Addr} (r : RO M H m o p) (n : isFrl o = false) : ∃ u, H p = some u ∧ notTup u = true := by
  cases o with
  | lst xs => obtain ⟨vs, a, b⟩ := r; exact ⟨_, a, rfl⟩
  | frl xs => cases n
  | dic kvs => obtain ⟨vs, a, b⟩ := r; exact ⟨_, a, rfl⟩
  | ins c fs => obtain ⟨dx, gs, cd, a, _⟩ := r; exact ⟨_, a, rfl⟩
theorem RH.lt {M : Mo} {H : Hp} {m : List Addr} {h : PH} (r : RH M H m h) {a : Nat} {p : Addr} (e : m[a]? = some p) : ∃ o, h[a]? = some o := by
  have h1 := (List.getElem?_eq_some_iff.mp e).1
  rw [r.len] at h1
  exact ⟨h[a], List.getElem?_eq_getElem h1⟩
theorem RH.addr {M : Mo} {H : Hp} {m : List Addr} {h : PH} (r : RH M H m h) {a : Nat} {o : PO} (e : h[a]? = some o) : ∃ p, m[a]? = some p ∧ RO M H m o p := by
  have h1 := (List.getElem?_eq_some_iff.mp e).1
  rw [← r.len] at h1
  exact ⟨m[a], List.getElem?_eq_getElem h1, r.obj a o _ e (List.getElem?_eq_getElem h1)⟩
theorem isK_of {K : PySem.W.Frag} {H : Hp} {m : List Addr} {k : PV} {y : V} (h : isK k = true) (r : RV K H m k y) : ∃ q, keyV k = some q ∧ y = kV q := by
  cases k <;> first | exact absurd h Bool.false_ne_true | skip
  · exact ⟨_, rfl, r⟩
  · exact ⟨_, rfl, r⟩
theorem eqK_of {x k : PV} {p q : Key} (hx : keyV x = some p) (hk : keyV k = some q) : eqK x k = decide (p = q) := by
  cases x <;> first | cases hx; done | skip
  all_goals (cases k <;> first | cases hk; done | skip)
  all_goals cases hx
  all_goals cases hk
  all_goals (unfold eqK; rw [Bool.eq_iff_iff]; simp)
theorem look_of {K : PySem.W.Frag} {H : Hp} {m : List Addr} {k : PV} {q : Key} (hk : keyV k = some q) : ∀ {xs : List (PV × PV)} {ks : List (Key × V)}, RKs K H m xs ks → optR K H m (lookD k xs) (valV ks q)
  | [], ks, h => by cases (show ks = [] from h); exact trivial
  | (x, y) :: r, ks, h => by
    obtain ⟨p, v, s, rfl, hx, rv, hr⟩ := h
    have e := eqK_of hx hk
    show optR K H m (if eqK x k = true then some y else lookD k r) _
    by_cases hp : p = q
    · rw [e, decide_eq_true hp, if_pos rfl, valV_pos (show ((p, v) : Key × V).1 = q from hp)]
      exact rv
    · rw [e, decide_eq_false hp, if_neg Bool.false_ne_true]
      have e2 : valV ((p, v) :: s) q = valV s q := by simp [valV, List.find?_cons, hp]
      rw [e2]
      exact look_of hk hr
theorem any_of {K : PySem.W.Frag} {H : Hp} {m : List Addr} {k : PV} {q : Key} (hk : keyV k = some q) : ∀ {xs : List (PV × PV)} {ks : List (Key × V)}, RKs K H m xs ks → (xs.any fun p => eqK p.1 k) = ks.any fun kv => decide (kv.1 = q)
  | [], ks, h => by cases (show ks = [] from h); rfl
  | (x, y) :: r, ks, h => by
    obtain ⟨p, v, s, rfl, hx, rv, hr⟩ := h
    rw [List.any_cons, List.any_cons, any_of hk hr]
    show (eqK x k || _) = (decide (p = q) || _)
    rw [eqK_of hx hk]
theorem map_of {K : PySem.W.Frag} {H : Hp} {m : List Addr} {k z : PV} {q : Key} {w : V} (hk : keyV k = some q) (hz : RV K H m z w) : ∀ {xs : List (PV × PV)} {ks : List (Key × V)}, RKs K H m xs ks → RKs K H m (xs.map fun p => if eqK p.1 k = true then (p.1, z) else p) (ks.map fun kv => if kv.1 = q then (kv.1, w) else kv)
  | [], ks, h => by cases (show ks = [] from h); rfl
  | (x, y) :: r, ks, h => by
    obtain ⟨p, v, s, rfl, hx, rv, hr⟩ := h
    have ih := map_of hk hz hr
    have e := eqK_of hx hk
    rw [List.map_cons, List.map_cons]
    by_cases hp : p = q
    · rw [show (if eqK (x, y).1 k = true then ((x, y).1, z) else (x, y)) = (x, z) from if_pos (by show eqK x k = true; rw [e, decide_eq_true hp]), show (if ((p, v) : Key × V).1 = q then (((p, v) : Key × V).1, w) else (p, v)) = (p, w) from if_pos hp]
      exact ⟨p, w, _, rfl, hx, hz, ih⟩
    · rw [show (if eqK (x, y).1 k = true then ((x, y).1, z) else (x, y)) = (x, y) from if_neg (by show ¬ eqK x k = true; rw [e, decide_eq_false hp]; exact Bool.false_ne_true), show (if ((p, v) : Key × V).1 = q then (((p, v) : Key × V).1, w) else (p, v)) = (p, v) from if_neg hp]
      exact ⟨p, v, _, rfl, hx, rv, ih⟩
theorem snoc_of {K : PySem.W.Frag} {H : Hp} {m : List Addr} {k z : PV} {q : Key} {w : V} (hk : keyV k = some q) (hz : RV K H m z w) : ∀ {xs : List (PV × PV)} {ks : List (Key × V)}, RKs K H m xs ks → RKs K H m (xs ++ [(k, z)]) (ks ++ [(q, w)])
  | [], ks, h => by cases (show ks = [] from h); exact ⟨q, w, [], rfl, hk, hz, rfl⟩
  | (x, y) :: r, ks, h => by
    obtain ⟨p, v, s, rfl, hx, rv, hr⟩ := h
    exact ⟨p, v, _, rfl, hx, rv, snoc_of hk hz hr⟩
theorem put_of {K : PySem.W.Frag} {H : Hp} {m : List Addr} {k z : PV} {q : Key} {w : V} (hk : keyV k = some q) (hz : RV K H m z w) {xs : List (PV × PV)} {ks : List (Key × V)} (h : RKs K H m xs ks) : RKs K H m (putD k z xs) (putK ks q w) := by
  unfold putD putK
  rw [any_of hk h]
  split
  · exact map_of hk hz h
  · exact snoc_of hk hz h
theorem RKs.len {K : PySem.W.Frag} {H : Hp} {m : List Addr} : ∀ {xs : List (PV × PV)} {ks : List (Key × V)}, RKs K H m xs ks → xs.length = ks.length
  | [], ks, h => by cases (show ks = [] from h); rfl
  | (x, y) :: r, ks, h => by
    obtain ⟨p, v, s, rfl, _, _, hr⟩ := h
    exact congrArg Nat.succ hr.len
/-- a new object -/
theorem RH.new {M : Mo} {H : Hp} {m : List Addr} {h : PH} {p : Addr} {u : HO} {o : PO} (r : RH M H m h) (hp : H p = none) (ho : RO M (upd H p u) (m ++ [p]) o p) (nf : isFrl o = false) :
    RH M (upd H p u) (m ++ [p]) (h ++ [o]) := by
  have k : Kp M.K H (upd H p u) := Kp.upd_new hp
  have ex : Ex m (m ++ [p]) := Ex.app m p
  have old : ∀ (a : Nat) (o' : PO) (q : Addr), h[a]? = some o' → m[a]? = some q → isFrl o' = false → q ≠ p := fun a o' q e1 e2 hf z => by
    subst z
    obtain ⟨u', e3, _⟩ := (r.obj a o' q e1 e2).at hf
    rw [hp] at e3; cases e3
  have cases_ : ∀ (a : Nat) (o' : PO) (q : Addr), (h ++ [o])[a]? = some o' → (m ++ [p])[a]? = some q → (h[a]? = some o' ∧ m[a]? = some q) ∨ (a = h.length ∧ o' = o ∧ q = p) := fun a o' q e1 e2 => by
    by_cases ha : a < h.length
    · rw [List.getElem?_append_left ha] at e1
      rw [List.getElem?_append_left (by rw [r.len]; exact ha)] at e2
      exact .inl ⟨e1, e2⟩
    · rw [List.getElem?_append_right (Nat.le_of_not_lt ha)] at e1
      rw [List.getElem?_append_right (by rw [r.len]; exact Nat.le_of_not_lt ha), r.len] at e2
      have hz : a - h.length = 0 := by
        cases hn : a - h.length with
        | zero => rfl
        | succ n => rw [hn] at e1; simp at e1
      rw [hz] at e1 e2
      simp at e1 e2
      exact .inr ⟨by omega, e1.symm, e2.symm⟩
  refine ⟨by simp [r.len], fun a o' q e1 e2 => ?_, fun a b q o1 o2 e1 e2 e3 e4 n1 n2 => ?_⟩
  · rcases cases_ a o' q e1 e2 with ⟨e1, e2⟩ | ⟨_, rfl, rfl⟩
    · exact (r.obj a o' q e1 e2).mono k ex fun u e => (upd_ne (ne_of_none e hp)).trans e
    · exact ho
  · rcases cases_ a o1 q e3 e1 with ⟨e3, e1⟩ | ⟨ha, _, hqa⟩ <;> rcases cases_ b o2 q e4 e2 with ⟨e4, e2⟩ | ⟨hb, _, hqb⟩
    · exact r.inj a b q o1 o2 e1 e2 e3 e4 n1 n2
    · exact absurd hqb (old a o1 q e3 e1 n1)
    · exact absurd hqa (old b o2 q e4 e2 n2)
    · omega
/-- an object changed -/
theorem RH.put {M : Mo} {H : Hp} {m : List Addr} {h : PH} {a : Nat} {p : Addr} {u : HO} {o o0 : PO} (r : RH M H m h) (e0 : h[a]? = some o0) (ep : m[a]? = some p) (n0 : isFrl o0 = false) (nf : isFrl o = false)
    (ho : RO M (upd H p u) m o p) : RH M (upd H p u) m (h.set a o) ∧ Kp M.K H (upd H p u) := by
  obtain ⟨u0, e3, n3⟩ := (r.obj a o0 p e0 ep).at n0
  have k : Kp M.K H (upd H p u) := Kp.upd_old e3 n3
  have hlt := (List.getElem?_eq_some_iff.mp e0).1
  refine ⟨⟨by simp [r.len], fun b o' q e1 e2 => ?_, fun b c q o1 o2 e1 e2 e3' e4 n1 n2 => ?_⟩, k⟩
  · by_cases hb : b = a
    · subst hb
      rw [List.getElem?_set_self hlt] at e1
      rw [ep] at e2
      cases e1; cases e2
      exact ho
    · rw [List.getElem?_set_ne (Ne.symm hb)] at e1
      have ro := r.obj b o' q e1 e2
      by_cases hq : q = p
      · subst hq
        cases hf : isFrl o' with
        | false => exact absurd (r.inj b a q o' o0 e2 ep e1 e0 hf n0) hb
        | true =>
          cases o' with
          | frl xs =>
            obtain ⟨vs, s, rv⟩ := ro
            refine ⟨vs, ?_, rv.mono k (Ex.refl m) _ _⟩
            rcases s with ⟨ob, s⟩ | s
            · rw [e3] at s; cases s; cases n3
            · exact .inr s
          | _ => cases hf
      · exact ro.mono k (Ex.refl m) fun u e => (upd_ne hq).trans e
  · have back : ∀ (b : Nat) (o1 : PO), (h.set a o)[b]? = some o1 → isFrl o1 = false → ∃ o1', h[b]? = some o1' ∧ isFrl o1' = false := fun b o1 e n => by
      by_cases hb : b = a
      · subst hb; exact ⟨o0, e0, n0⟩
      · rw [List.getElem?_set_ne (Ne.symm hb)] at e; exact ⟨o1, e, n⟩
    obtain ⟨o1', f1, g1⟩ := back b o1 e3' n1
    obtain ⟨o2', f2, g2⟩ := back c o2 e4 n2
    exact r.inj b c q o1' o2' e1 e2 f1 f2 g1 g2
end Py

set_option Elab.async false
set_option linter.all false
set_option maxRecDepth 100000
set_option maxHeartbeats 4000000
/-! PyOps: operators that the layer lacks: tuple * 0, tuple * 1, is a truth, repr of data. -/
namespace Py
open PySem PySem.Spec PyProof.Rows L2
theorem mul_one (l : Addr) (items : Array Value) (n : Nat) (dd : Option Addr) (sl : Array (Option Value)) (u : Tok) :
    Meets (Builtin.«tuple.__mul__» ⟨[.ref l, .int 1 u], []⟩) (fun _ R s => s.heap.get? l = some { cls := .type "tuple", dict := dd, data := .seq items n, slots := sl } ∧ R (.ok (.ret (Value.ref l))) s) :=
  .of_wp fun prog w A R s h => by
    obtain ⟨hp, g, d, tk, os⟩ := s
    obtain ⟨hl, h⟩ := h
    have f1 := AutoSeq1.idx_int
    have c1 : (items.isEmpty || ((1 : Int) == 1)) = true := by simp
    wp_walk using wpAny_loadPart' hl
    repeat (first
      | (refine wpAny_ite_false (decide_eq_false (by decide)) ?_; wp_walk using wpAny_loadPart' hl)
      | (refine wpAny_ite_true (by first | exact c1 | exact decide_eq_true c1) ?_; wp_walk using wpAny_loadPart' hl))
    exact ⟨_, rfl, h⟩
theorem mul_none (l : Addr) (items : Array Value) (n : Nat) (dd : Option Addr) (sl : Array (Option Value)) (x : Int) (u : Tok) (c0 : (decide (x < -(2 ^ 63)) || decide (x ≥ 2 ^ 63)) = false) (c1 : (items.isEmpty || x == 1) = false) (c2 : (decide (x ≤ 0) || items.isEmpty) = true) :
    Meets (Builtin.«tuple.__mul__» ⟨[.ref l, .int x u], []⟩) (fun _ R s => s.heap.get? l = some { cls := .type "tuple", dict := dd, data := .seq items n, slots := sl } ∧
      R (.ok (.ret (Value.ref s.heap.objs.size))) { s with heap := s.heap.push { cls := Value.type "tuple", data := Data.seq #[] }, toks := s.toks }) :=
  .of_wp fun prog w A R s h => by
    obtain ⟨hp, g, d, tk, os⟩ := s
    obtain ⟨hl, h⟩ := h
    have f1 := AutoSeq1.idx_int
    wp_walk using wpAny_loadPart' hl
    repeat (first
      | (refine wpAny_ite_false (decide_eq_false (by rw [c0]; exact Bool.false_ne_true)) ?_; wp_walk using wpAny_loadPart' hl)
      | (refine wpAny_ite_false (decide_eq_false (by rw [c1]; exact Bool.false_ne_true)) ?_; wp_walk using wpAny_loadPart' hl)
      | (refine wpAny_ite_true (by first | exact c2 | exact decide_eq_true c2) ?_; wp_walk using wpAny_loadPart' hl))
    exact ⟨_, rfl, h⟩
section
variable {X : Cx}
/-- tuple * int, the tuple not empty -/
def rMulT (K : PySem.W.Frag) : R2 := fun x y H Q => ∃ l k xs, x = .ref l ∧ y = .int k ∧ SqT K H l xs ∧ xs ≠ [] ∧ -1000 ≤ k ∧ k ≤ 1000 ∧ xs.length ≤ 1000 ∧ (k = 1 → Q (.ref l) H) ∧ (k ≤ 0 → ∀ p, H p = none → Q (.ref p) (upd H p (.tup []))) ∧
  (2 ≤ k → ∀ p, H p = none → Q (.ref p) (upd H p (.tup (List.replicate k.toNat xs).flatten)))
theorem op_mulT : OpR X (binaryOp .Mult) (rMulT X.K) := by
  intro pins s σ H x y v u Q I rx ry h
  obtain ⟨l, k, xs, rfl, rfl, hT, hne, h0, h1, hz, q1, q0, q2⟩ := h
  by_cases h2 : 2 ≤ k
  · exact op_repT pins s σ H _ _ v u Q I rx ry ⟨l, k, xs, rfl, rfl, hT, hne, h2, h1, hz, q2 h2⟩
  cases rx
  obtain ⟨t, rfl⟩ := ry
  obtain ⟨its, r, ⟨⟨cls, dd, data, sl⟩, ho, hc, n, hd⟩, hs⟩ := I.tuple hT
  simp only at hc hd
  subst hc hd
  by_cases h3 : k = 1
  · subst h3
    refine wpAny_binaryOp_repeat_ref (T := "tuple") (U := "int") (by decide) ⟨_, ho, rfl⟩ (fun s' => typeIs_int s' 1 t) noFill_tuple_mul F.fills_int_mul F.slot_int_rmul repeat_tuple F.slot_int_index.lookup
      (call_meets F.slot_int_rmul (typeIs_int s 1 t) F.entry_int_rmul (F.args_int_rmul_2 _ _) (int_rmul_tuple 1 t l its.toArray n dd sl)
        ⟨ho, rfl, ⟨_, ho, rfl⟩, call_meets F.slot_tuple_mul ⟨_, ho, rfl⟩ F.entry_tuple_mul (F.args_tuple_mul_2 _ _) (mul_one l its.toArray n dd sl t) ⟨ho, ?_⟩⟩)
    exact ⟨.ref l, _, I, rfl, q1 rfl⟩
  · have hn : its ≠ [] := fun e => hne (by
      have := r.length
      rw [e] at this
      exact List.eq_nil_of_length_eq_zero this)
    have hi : its.toArray.isEmpty = false := by
      cases its with
      | nil => exact absurd rfl hn
      | cons a b => rfl
    have k0 : k ≤ 0 := by omega
    refine wpAny_binaryOp_repeat_ref (T := "tuple") (U := "int") (by decide) ⟨_, ho, rfl⟩ (fun s' => typeIs_int s' k t) noFill_tuple_mul F.fills_int_mul F.slot_int_rmul repeat_tuple F.slot_int_index.lookup
      (call_meets F.slot_int_rmul (typeIs_int s k t) F.entry_int_rmul (F.args_int_rmul_2 _ _) (int_rmul_tuple k t l its.toArray n dd sl)
        ⟨ho, rfl, ⟨_, ho, rfl⟩, call_meets F.slot_tuple_mul ⟨_, ho, rfl⟩ F.entry_tuple_mul (F.args_tuple_mul_2 _ _) (mul_none l its.toArray n dd sl k t ?_ ?_ ?_) ⟨ho, ?_⟩⟩)
    · rw [decide_eq_false (by omega), decide_eq_false (by omega)] <;> rfl
    · rw [hi, Bool.false_or]
      exact beq_eq_false_iff_ne.mpr h3
    · rw [decide_eq_true k0] <;> rfl
    · exact ⟨.ref s.heap.objs.size, _, I.laid (t' := s.toks) (o := .tup []) (fun b ob q => Heap.get?_push_of_some _ q) (Nat.le_refl _) ⟨Nat.zero_le _, [], .nil, IsTup.new _ _⟩, rfl, q0 k0 _ (I.hok.fresh (Nat.le_refl _))⟩
/-- is a truth -/
theorem op_isB : OpR X (compareOp .Is) (fun x y H Q => ∃ b, y = .bl b ∧ (∀ a, x ≠ .ref a) ∧ (∀ n, x ≠ .ty n) ∧ Q (.bl (decide (x = .bl b))) H) := by
  intro pins s σ H x y v u Q I rx ry h
  obtain ⟨b, rfl, n1, n2, q⟩ := h
  cases ry
  have fin : ∀ {w : Value} {c : Bool}, plainIs w (.bool b) = true → (w == .bool b) = c → Q (.bl c) H → wpAny (model X.prog X.w) X.A (compareOp .Is w (.bool b)) (EP X pins σ Q) X.xe s := fun {w c} h1 h2 q => by
    subst h2
    exact wpAny_is_plain h1 ⟨.bl _, H, I, rfl, q⟩
  cases x with
  | non => cases rx; exact fin rfl rfl q
  | bl a =>
    cases rx
    refine fin rfl (c := decide (V.bl a = V.bl b)) ?_ q
    cases a <;> cases b <;> rfl
  | int i => obtain ⟨t, rfl⟩ := rx; exact fin rfl rfl q
  | str i => obtain ⟨t, rfl⟩ := rx; exact fin rfl rfl q
  | byt i => obtain ⟨t, rfl⟩ := rx; exact fin rfl rfl q
  | flt i => obtain ⟨t, rfl⟩ := rx; exact fin rfl rfl q
  | ref a => exact absurd rfl (n1 a)
  | ty n => exact absurd rfl (n2 n)
theorem op_isNB : OpR X (compareOp .IsNot) (fun x y H Q => ∃ b, y = .bl b ∧ (∀ a, x ≠ .ref a) ∧ (∀ n, x ≠ .ty n) ∧ Q (.bl (!decide (x = .bl b))) H) := by
  intro pins s σ H x y v u Q I rx ry h
  obtain ⟨b, rfl, n1, n2, q⟩ := h
  cases ry
  have fin : ∀ {w : Value} {c : Bool}, plainIs w (.bool b) = true → (w == .bool b) = c → Q (.bl (!c)) H → wpAny (model X.prog X.w) X.A (compareOp .IsNot w (.bool b)) (EP X pins σ Q) X.xe s := fun {w c} h1 h2 q => by
    subst h2
    exact wpAny_isNot_plain h1 ⟨.bl _, H, I, rfl, q⟩
  cases x with
  | non => cases rx; exact fin rfl rfl q
  | bl a =>
    cases rx
    refine fin rfl (c := decide (V.bl a = V.bl b)) ?_ q
    cases a <;> cases b <;> rfl
  | int i => obtain ⟨t, rfl⟩ := rx; exact fin rfl rfl q
  | str i => obtain ⟨t, rfl⟩ := rx; exact fin rfl rfl q
  | byt i => obtain ⟨t, rfl⟩ := rx; exact fin rfl rfl q
  | flt i => obtain ⟨t, rfl⟩ := rx; exact fin rfl rfl q
  | ref a => exact absurd rfl (n1 a)
  | ty n => exact absurd rfl (n2 n)
theorem foldl_app : ∀ (l : List (Array Nat)) (a : Array Nat), (l.foldl (· ++ ·) a).toList = a.toList ++ (l.map (·.toList)).flatten
  | [], a => by simp
  | x :: r, a => by rw [List.foldl_cons, foldl_app r (a ++ x)]; simp
/-- text * int -/
theorem op_mulStr : OpR X (binaryOp .Mult) (fun x y H Q => ∃ a k, x = .str a ∧ y = .int k ∧ -(2 ^ 63) ≤ k ∧ k < 2 ^ 63 ∧ a.length * k.toNat ≤ 16777216 ∧ a.length ≤ 16777216 ∧ Q (.str ⟨(List.replicate k.toNat a.cps.toList).flatten.toArray⟩) H) := by
  intro pins s σ H x y v u Q I rx ry h
  obtain ⟨a, k, rfl, rfl, h1, h2, h3, h4, q⟩ := h
  obtain ⟨t, rfl⟩ := rx
  obtain ⟨t', rfl⟩ := ry
  have fin : ∀ (z : Str) (tk : Tok) (s' : Shared), z = ⟨(List.replicate k.toNat a.cps.toList).flatten.toArray⟩ → L2.Inv X pins σ H s' → EP X pins σ Q (.str z tk) s' := fun z tk s' e I' => by
    subst e; exact ⟨.str _, H, I', ⟨tk, rfl⟩, q⟩
  refine PySem.P.mul_str (by rw [decide_eq_false (by omega), decide_eq_false (by omega)]; rfl) (fun hn _ => ?_) (fun hn _ => ?_) ?_
  · have hk : 0 < k := by omega
    have e : k = (k.toNat : Int) := by omega
    have h5 : (a.length : Int) * k ≤ 16777216 := by
      rw [e, ← Int.natCast_mul]; exact Int.ofNat_le.mpr h3
    have : (a.length : Int) ≤ (2 ^ 63 - 1) / k := by
      rw [Int.le_ediv_iff_mul_le hk]; omega
    omega
  · show decide _ = false
    exact decide_eq_false (by show ¬ _ > 2 ^ 24; omega)
  · split
    · rename_i hn
      refine ⟨by show (0 : Nat) ≤ 2 ^ 24; omega, fin _ _ _ ?_ (I.tok _)⟩
      rw [show k.toNat = 0 by omega]; rfl
    · rename_i hn
      split
      · rename_i h0
        refine fin a t s ?_ I
        rcases Bool.or_eq_true_iff.mp h0 with h0 | h0
        · have : k = 1 := by simpa using h0
          subst this
          simp
        · have : a.length = 0 := by simpa using h0
          have e : a.cps = #[] := Array.eq_empty_of_size_eq_zero this
          obtain ⟨c⟩ := a
          subst e
          simp
      · have e : (⟨(List.replicate k.toNat a.cps).foldl (· ++ ·) #[]⟩ : Str) = ⟨(List.replicate k.toNat a.cps.toList).flatten.toArray⟩ := by
          congr 1
          apply Array.ext'
          rw [foldl_app]; simp
        refine ⟨?_, fin _ _ _ e (I.tok _)⟩
        rw [e]
        show (List.flatten _).toArray.size ≤ 2 ^ 24
        rw [List.size_toArray, List.length_flatten, List.map_replicate, List.sum_replicate_nat]
        have : a.cps.toList.length = a.length := Array.length_toList
        rw [this, Nat.mul_comm]; omega
theorem call_repr_int : CallR X (.builtin "repr") (fun xs H Q => ∃ i, xs = [.int i] ∧ i.natAbs.log2 < 1920 ∧ Q (.str (toString i)) H) := by
  intro pins s σ H xs us Q I r h
  obtain ⟨i, rfl, hz, q⟩ := h
  obtain ⟨u, rfl, t, rfl⟩ := vals1 r
  exact PySem.P.repr_of_int hz ⟨.str _, H, I.tok _, ⟨_, rfl⟩, q⟩
theorem call_repr_bool : CallR X (.builtin "repr") (fun xs H Q => ∃ b, xs = [.bl b] ∧ Q (.str (Str.ofString (if b then "True" else "False"))) H) := by
  intro pins s σ H xs us Q I r h
  obtain ⟨b, rfl, q⟩ := h
  obtain ⟨u, rfl, rx⟩ := vals1 r
  cases rx
  cases b
  · exact PySem.P.repr_of_bool ⟨.str _, H, I.tok _, ⟨_, rfl⟩, q⟩
  · exact PySem.P.repr_of_bool ⟨.str _, H, I.tok _, ⟨_, rfl⟩, q⟩
theorem call_repr_str : CallR X (.builtin "repr") (fun xs H Q => ∃ x, xs = [.str x] ∧ (reprText x).length ≤ sizeLine ∧ Q (.str (reprText x)) H) := by
  intro pins s σ H xs us Q I r h
  obtain ⟨x, rfl, hz, q⟩ := h
  obtain ⟨u, rfl, t, rfl⟩ := vals1 r
  exact PySem.P.repr_of_str (h := ⟨.str _, H, I.tok _, ⟨_, rfl⟩, q⟩) (hsz := hz)
theorem call_repr_none : CallR X (.builtin "repr") (fun xs H Q => xs = [.non] ∧ Q (.str "None") H) := by
  intro pins s σ H xs us Q I r h
  obtain ⟨rfl, q⟩ := h
  obtain ⟨u, rfl, rx⟩ := vals1 r
  cases rx
  exact PySem.P.repr_of_none ⟨.str _, H, I.tok _, ⟨_, rfl⟩, q⟩
/-- repr of data -/
theorem call_repr (hg : X.A.guards = some []) (hu : X.A.units + 66 < cLine) : CallR X (.builtin "repr") (fun xs H Q => ∃ a d, xs = [.ref a] ∧ Dp X.K H (.ref a) d ∧ SeqAt.shaped d = true ∧ d.showable = true ∧ d.shown.length ≤ sizeLine ∧ Q (.str d.shown) H) := by
  intro pins s σ H xs us Q I r h
  obtain ⟨a, d, rfl, hd, sh, show_, hz, q⟩ := h
  obtain ⟨u, rfl, rx⟩ := vals1 r
  obtain ⟨as, r1⟩ := Dp.reads I d _ u hd rx
  cases rx
  have dep := SeqAt.depth_of_shaped sh
  exact repr_of_reads' r1 show_ (PyData.noDict_hsm (PyData.hasDict_of_canLay d (SeqAt.canLay_of_shaped sh))) hg (by omega) (fun _ _ e => e) (fun h' u tk hk => ⟨.str _, H, I.kept hk, ⟨u, rfl⟩, q⟩) hz
end
end Py

set_option Elab.async false
set_option linter.all false
set_option maxRecDepth 100000
set_option maxHeartbeats 4000000
/-! PySound2: values by values: operators, comparisons, subscripts, built-ins. -/
namespace Py
open PySem PySem.Spec PyProof.Rows L2

/-! ### readings of the layer from readings of ours -/
def LQ (M : Mo) (m : List Addr) (H : Hp) (Q : VK) : KQ := fun v h' => ∀ (m' : List Addr) (H' : Hp) (w : V), Ex m m' → Kp M.K H H' → RH M H' m' h' → RV M.K H' m' v w → Q w H'
def LA (M : Mo) (m : List Addr) (H : Hp) (Q : List V → Hp → Prop) : List PV → PH → Prop := fun v h' => ∀ (m' : List Addr) (H' : Hp) (w : List V), Ex m m' → Kp M.K H H' → RH M H' m' h' → RVs M.K H' m' v w → Q w H'
def LB (M : Mo) {α : Type} (m : List Addr) (H : Hp) (Q : α → Hp → Prop) : α → PH → Prop := fun b h' => ∀ (m' : List Addr) (H' : Hp), Ex m m' → Kp M.K H H' → RH M H' m' h' → Q b H'
/-- exceptions -/
def RX (M : Mo) (H : Hp) (m : List Addr) (x : XV) (cls : Value) (d : Option Addr) : Prop := cls = .ref (M.ca x.c)
def LX (M : Mo) (W : WX) (σ : L2.St) (m : List Addr) (H : Hp) : KX := fun x h' => ∀ (m' : List Addr) (H' : Hp) (cls : Value) (d : Option Addr), Ex m m' → Kp M.K H H' → RH M H' m' h' → RX M H' m' x cls d → W cls d σ H'
section
variable {M : Mo} {m m1 : List Addr} {H H1 : Hp}
theorem LQ.mono {Q : VK} (e : Ex m m1) (k : Kp M.K H H1) : ∀ v h, LQ M m H Q v h → LQ M m1 H1 Q v h := fun v h q m' H' w e' k' r rv => q m' H' w (e.trans e') (k.trans k') r rv
theorem LA.mono {Q : List V → Hp → Prop} (e : Ex m m1) (k : Kp M.K H H1) : ∀ v h, LA M m H Q v h → LA M m1 H1 Q v h := fun v h q m' H' w e' k' r rv => q m' H' w (e.trans e') (k.trans k') r rv
theorem LB.mono {α : Type} {Q : α → Hp → Prop} (e : Ex m m1) (k : Kp M.K H H1) : ∀ v h, LB M m H Q v h → LB M m1 H1 Q v h := fun v h q m' H' e' k' r => q m' H' (e.trans e') (k.trans k') r
theorem LX.mono {W : WX} {σ : L2.St} (e : Ex m m1) (k : Kp M.K H H1) : ∀ v h, LX M W σ m H v h → LX M W σ m1 H1 v h := fun v h q m' H' c d e' k' r rx => q m' H' c d (e.trans e') (k.trans k') r rx
theorem LQ.at {Q : VK} {v : PV} {h : PH} {w : V} (q : LQ M m H Q v h) (r : RH M H m h) (rv : RV M.K H m v w) : Q w H := q m H w (Ex.refl m) (Kp.refl _ H) r rv
theorem LB.at {α : Type} {Q : α → Hp → Prop} {v : α} {h : PH} (q : LB M m H Q v h) (r : RH M H m h) : Q v H := q m H (Ex.refl m) (Kp.refl _ H) r
/-- a new object, handed on -/
theorem LQ.new {Q : VK} {h : PH} {o : PO} {u : HO} (q : LQ M m H Q (.ref h.length) (h ++ [o])) (r : RH M H m h) (nf : isFrl o = false) (ho : ∀ p, H p = none → RO M (upd H p u) (m ++ [p]) o p) : ∀ p, H p = none → Q (.ref p) (upd H p u) := fun p hp => by
  refine q (m ++ [p]) (upd H p u) (.ref p) (Ex.app m p) (Kp.upd_new hp) (r.new hp (ho p hp) nf) ⟨p, ?_, rfl⟩
  rw [← r.len]; simp
end

/-! ### lists, data -/
theorem lstOf_get {M : Mo} {H : Hp} {m : List Addr} {h : PH} {v : PV} {w : V} {xs : List PV} (r : RH M H m h) (rv : RV M.K H m v w) (e : lstOf h v = some xs) : ∃ p vs, w = .ref p ∧ SqL M.K H p vs ∧ RVs M.K H m xs vs := by
  unfold lstOf at e
  split at e
  · rename_i a
    obtain ⟨p, e1, rfl⟩ := rv
    split at e
    · rename_i ys e2
      cases e
      obtain ⟨vs, a1, a2⟩ := r.obj _ _ _ e2 e1
      exact ⟨p, vs, rfl, .inl (.inl a1), a2⟩
    · rename_i ys e2
      cases e
      obtain ⟨vs, a1, a2⟩ := r.obj _ _ _ e2 e1
      refine ⟨p, vs, rfl, ?_, a2⟩
      rcases a1 with ⟨o, a1⟩ | a1
      · exact .inl (.inr ⟨o, a1⟩)
      · exact .inr a1
    · cases e
  · cases e
theorem lst_get {M : Mo} {H : Hp} {m : List Addr} {h : PH} {a : Nat} {w : V} {xs : List PV} (r : RH M H m h) (rv : RV M.K H m (.ref a) w) (e : h[a]? = some (.lst xs)) : ∃ p vs, w = .ref p ∧ m[a]? = some p ∧ H p = some (.lst vs) ∧ RVs M.K H m xs vs := by
  obtain ⟨p, e1, rfl⟩ := rv
  obtain ⟨vs, a1, a2⟩ := r.obj _ _ _ e e1
  exact ⟨p, vs, rfl, e1, a1, a2⟩
theorem seqOf_get {M : Mo} {H : Hp} {m : List Addr} {h : PH} {v : PV} {w : V} {xs : List PV} (r : RH M H m h) (rv : RV M.K H m v w) (e : seqOf h v = some xs) : ∃ p vs, w = .ref p ∧ (SqL M.K H p vs ∨ SqT M.K H p vs) ∧ RVs M.K H m xs vs := by
  unfold seqOf at e
  split at e
  · cases e
    obtain ⟨p, vs, e1, e2, e3⟩ := rv
    exact ⟨p, vs, e1, .inr e2, e3⟩
  · obtain ⟨p, vs, a, b, c⟩ := lstOf_get r rv e
    exact ⟨p, vs, a, .inl b, c⟩
mutual
theorem Dat.dp {M : Mo} {H : Hp} {m : List Addr} {h : PH} (r : RH M H m h) : ∀ (d : PyData) (v : PV) (w : V), Dat h d v → RV M.K H m v w → Dp M.K H w d
  | .none, v, w, e, rv => by cases (show v = .non from e); cases (show w = .non from rv); exact .non
  | .bool b, v, w, e, rv => by cases (show v = .bl b from e); cases (show w = .bl b from rv); exact .bl b
  | .int i, v, w, e, rv => by cases (show v = .int i from e); cases (show w = .int i from rv); exact .int i
  | .str s, v, w, e, rv => by cases (show v = .str s from e); cases (show w = .str s from rv); exact .str s
  | .tuple ds, v, w, e, rv => by
    obtain ⟨xs, rfl, e2⟩ := e
    obtain ⟨p, vs, rfl, e3, e4⟩ := rv
    exact .tup e3 (Dats.dp r ds xs vs e2 e4)
  | .list ds, v, w, e, rv => by
    obtain ⟨xs, e1, e2⟩ := e
    obtain ⟨p, vs, rfl, e3, e4⟩ := lstOf_get r rv e1
    exact .lst e3 (Dats.dp r ds xs vs e2 e4)
  | .dict _, v, w, e, rv => e.elim
theorem Dats.dp {M : Mo} {H : Hp} {m : List Addr} {h : PH} (r : RH M H m h) : ∀ (d : List PyData) (v : List PV) (w : List V), Dats h d v → RVs M.K H m v w → DpAll M.K H w d
  | [], v, w, e, rv => by cases (show v = [] from e); cases (show w = [] from rv); exact .nil
  | d :: ds, v, w, e, rv => by
    obtain ⟨y, ys, rfl, e1, e2⟩ := e
    obtain ⟨z, zs, rfl, e3, e4⟩ := rv
    exact .cons (Dat.dp r d y z e1 e3) (Dats.dp r ds ys zs e2 e4)
end
theorem RVs.rep {K : PySem.W.Frag} {H : Hp} {m : List Addr} {xs : List PV} {vs : List V} (h : RVs K H m xs vs) : ∀ n : Nat, RVs K H m (List.replicate n xs).flatten (List.replicate n vs).flatten
  | 0 => rfl
  | n + 1 => by rw [List.replicate_succ, List.replicate_succ, List.flatten_cons, List.flatten_cons]; exact h.app (RVs.rep h n)
theorem RV.isN {K : PySem.W.Frag} {H : Hp} {m : List Addr} {a : PV} {x : V} (ra : RV K H m a x) : isNonB a = decide (x = .non) := by
  cases a with
  | non => cases (show x = .non from ra); rfl
  | bl _ => cases (show x = .bl _ from ra); rfl
  | int _ => cases (show x = .int _ from ra); rfl
  | str _ => cases (show x = .str _ from ra); rfl
  | tup _ => obtain ⟨p, vs, rfl, _⟩ := ra; rfl
  | ref _ => obtain ⟨p, _, rfl⟩ := ra; rfl
theorem atI_eq {α : Type} (xs : List α) (i : Int) : L2.atI xs i = atI xs i := rfl
theorem RVs.atI {K : PySem.W.Frag} {H : Hp} {m : List Addr} {xs : List PV} {vs : List V} {i : Int} {x : PV} (h : RVs K H m xs vs) (e : Py.atI xs i = some x) : ∃ v, L2.atI vs i = some v ∧ RV K H m x v := by
  unfold Py.atI at e
  rw [h.len] at e
  obtain ⟨j, e1, e2⟩ := Option.bind_eq_some_iff.mp e
  obtain ⟨v, e3, e4⟩ := h.get e2
  refine ⟨v, ?_, e4⟩
  show (L2.ixN vs.length i).bind _ = _
  rw [show L2.ixN vs.length i = Py.ixN vs.length i from rfl, e1]
  exact e3
theorem RVs.cut {K : PySem.W.Frag} {H : Hp} {m : List Addr} {xs : List PV} {vs : List V} (lo hi : Option Int) (h : RVs K H m xs vs) : RVs K H m (Py.cut xs lo hi) (L2.cutV vs lo hi) := by
  unfold Py.cut L2.cutV
  have e : ∀ n d o, HT.sIx n d o = Py.sIx n d o := fun n d o => by cases o <;> rfl
  rw [h.len, e, e]
  exact RVs.take _ (RVs.drop _ h)
theorem cut_whole {α : Type} (xs : List α) (lo hi : Option Int) (h1 : sIx xs.length 0 lo = 0) (h2 : sIx xs.length xs.length hi = xs.length) : cut xs lo hi = xs := by
  unfold cut
  rw [h1, h2]
  simp

/-! ### operators -/
def bopOf : BO → Operator
  | .add => .Add | .sub => .Sub | .mul => .Mult | .fdiv => .FloorDiv | .mod => .Mod | .pow => .Pow
def copOf : CO → CmpOp
  | .eq => .Eq | .ne => .NotEq | .lt => .Lt | .le => .LtE | .gt => .Gt | .ge => .GtE | .inn => .In | .nin => .NotIn | .isN => .Is | .notN => .IsNot
def r2 (M : Mo) (R : PV → PV → PH → KQ → Prop) : R2 := fun x y H Q => ∃ m h a b, RH M H m h ∧ RV M.K H m a x ∧ RV M.K H m b y ∧ R a b h (LQ M m H Q)
theorem op_fdivG {X : Cx} : OpR X (binaryOp .FloorDiv) (rI (fun _ j => j ≠ 0 ∧ j.natAbs.log2 < 9000) fun i j => .int (i.fdiv j)) := opI fun i j _ _ _ _ _ hc q => floordiv_int hc.1 q (.inl (PyProof.noPylong_of_log2 hc.2))
section
variable {M : Mo} {X : Cx}
theorem sB (hK : X.K = M.K) : ∀ (o : BO), OpR X (binaryOp (bopOf o)) (r2 M (binV o)) := by
  intro o pins s σ H x y v u Q I rx ry h
  obtain ⟨m, hh, a, b, rh, ra, rb, q⟩ := h
  unfold binV at q
  split at q
  · cases (show x = .int _ from ra); cases (show y = .int _ from rb)
    exact op_add pins s σ H _ _ v u Q I rx ry ⟨_, _, rfl, rfl, q.at rh rfl⟩
  · cases (show x = .str _ from ra); cases (show y = .str _ from rb)
    exact op_add_str pins s σ H _ _ v u Q I rx ry ⟨_, _, rfl, rfl, q.1, q.2.at rh rfl⟩
  · rename_i xs ys
    obtain ⟨p, vs, rfl, e1, e2⟩ := ra
    obtain ⟨p', ws, rfl, e3, e4⟩ := rb
    rw [← hK] at e1 e3
    have hl : vs.length + ws.length ≤ sizeLine := by rw [← e2.len, ← e4.len]; exact q.1
    refine op_catA pins s σ H _ _ v u Q I rx ry ⟨p, p', vs, ws, rfl, rfl, e1, e3, hl, fun hn => ?_, fun hn hn2 => ?_, fun hn hn2 p2 hp2 => ?_⟩
    · have : xs = [] := by have := e2.len; rw [hn] at this; simpa using this
      subst this
      rw [hK] at e3
      exact q.2.at rh ⟨p', ws, rfl, e3, e4⟩
    · have : ys = [] := by have := e4.len; rw [hn2] at this; simpa using this
      subst this
      rw [hK] at e1
      refine q.2.at rh ?_
      rw [List.append_nil]
      exact ⟨p, vs, rfl, e1, e2⟩
    · refine q.2 m (upd H p2 (.tup (vs ++ ws))) _ (Ex.refl m) (Kp.upd_new hp2) ?_ ⟨p2, vs ++ ws, rfl, .inl (.inl upd_same), (e2.app e4).mono (Kp.upd_new hp2) (Ex.refl m) _ _⟩
      exact ⟨rh.len, fun c o q' e1 e2 => (rh.obj c o q' e1 e2).mono (Kp.upd_new hp2) (Ex.refl m) fun u' e => (upd_ne (ne_of_none e hp2)).trans e, rh.inj⟩
  · obtain ⟨xs, ys, e1, e2, e3, q⟩ := q
    obtain ⟨p, vs, rfl, _, e4, e5⟩ := lst_get rh ra e1
    obtain ⟨p', ws, rfl, _, e6, e7⟩ := lst_get rh rb e2
    refine op_cat pins s σ H _ _ v u Q I rx ry ⟨p, p', vs, ws, rfl, rfl, e4, e6, by rw [← e5.len, ← e7.len]; exact e3, ?_⟩
    exact q.new rh rfl fun p2 hp2 => ⟨vs ++ ws, upd_same, (e5.app e7).mono (Kp.upd_new hp2) (Ex.app m p2) _ _⟩
  · cases (show x = .int _ from ra); cases (show y = .int _ from rb)
    exact op_sub pins s σ H _ _ v u Q I rx ry ⟨_, _, rfl, rfl, q.at rh rfl⟩
  · cases (show x = .int _ from ra); cases (show y = .int _ from rb)
    exact op_mul pins s σ H _ _ v u Q I rx ry ⟨_, _, rfl, rfl, q.1, q.2.at rh rfl⟩
  · obtain ⟨⟨n1, n2, n3, n4⟩, q⟩ := q
    cases (show x = .str _ from ra); cases (show y = .int _ from rb)
    exact op_mulStr pins s σ H _ _ v u Q I rx ry ⟨_, _, rfl, rfl, n1, n2, n3, n4, q.at rh rfl⟩
  · obtain ⟨⟨n1, n2, n3, n4⟩, q⟩ := q
    obtain ⟨p, vs, rfl, e1, e2⟩ := ra
    cases (show y = .int _ from rb)
    have el := e2.len
    rename_i xs k
    refine op_mulT pins s σ H _ _ v u Q I rx ry ⟨p, k, vs, rfl, rfl, by rw [hK]; exact e1, fun z => n1 (by rw [z] at el; exact List.eq_nil_of_length_eq_zero el), n2, n3, by rw [← el]; exact n4, fun e => ?_, fun e p2 hp2 => ?_, fun e p2 hp2 => ?_⟩
    · subst e
      refine q.at rh ?_
      have ez : (List.replicate (1 : Int).toNat xs).flatten = xs := by
        show [xs].flatten = xs
        simp
      rw [ez]
      exact ⟨p, vs, rfl, e1, e2⟩
    · have ez : (List.replicate k.toNat xs).flatten = [] := by
        rw [show k.toNat = 0 by omega]; rfl
      rw [ez] at q
      refine q m (upd H p2 (.tup [])) _ (Ex.refl m) (Kp.upd_new hp2) ?_ ⟨p2, [], rfl, .inl (.inl upd_same), rfl⟩
      exact ⟨rh.len, fun c o q' e1 e2 => (rh.obj c o q' e1 e2).mono (Kp.upd_new hp2) (Ex.refl m) fun u' e => (upd_ne (ne_of_none e hp2)).trans e, rh.inj⟩
    · refine q m (upd H p2 (.tup (List.replicate k.toNat vs).flatten)) _ (Ex.refl m) (Kp.upd_new hp2) ?_ ⟨p2, _, rfl, .inl (.inl upd_same), (e2.rep _).mono (Kp.upd_new hp2) (Ex.refl m) _ _⟩
      exact ⟨rh.len, fun c o q' e1 e2 => (rh.obj c o q' e1 e2).mono (Kp.upd_new hp2) (Ex.refl m) fun u' e => (upd_ne (ne_of_none e hp2)).trans e, rh.inj⟩
  · obtain ⟨xs, e1, e2, e3, e4, q⟩ := q
    obtain ⟨p, vs, rfl, _, e5, e6⟩ := lst_get rh ra e1
    cases (show y = .int _ from rb)
    refine op_rep pins s σ H _ _ v u Q I rx ry ⟨p, _, vs, rfl, rfl, e5, e2, e3, by rw [← e6.len]; exact e4, ?_⟩
    refine q.new rh rfl fun p2 hp2 => ⟨_, upd_same, ?_⟩
    refine RVs.mono (Kp.upd_new hp2) (Ex.app m p2) _ _ ?_
    exact e6.rep _
  · cases (show x = .int _ from ra); cases (show y = .int _ from rb)
    exact op_fdivG pins s σ H _ _ v u Q I rx ry ⟨_, _, rfl, rfl, ⟨q.1, q.2.1⟩, q.2.2.at rh rfl⟩
  · cases (show x = .int _ from ra); cases (show y = .int _ from rb)
    exact op_modN pins s σ H _ _ v u Q I rx ry ⟨_, _, rfl, rfl, q.1, q.2.at rh rfl⟩
  · cases (show x = .int _ from ra); cases (show y = .int _ from rb)
    exact op_pow pins s σ H _ _ v u Q I rx ry ⟨_, _, rfl, rfl, q.1, q.2.at rh rfl⟩
  · exact q.elim
theorem sA : ∀ (o : BO), OpR X (inplaceOp (bopOf o)) (r2 M (augV o)) := by
  intro o pins s σ H x y v u Q I rx ry h
  obtain ⟨m, hh, a, b, rh, ra, rb, q⟩ := h
  unfold augV at q
  split at q
  · cases (show x = .int _ from ra); cases (show y = .int _ from rb)
    exact iop_add pins s σ H _ _ v u Q I rx ry ⟨_, _, rfl, rfl, q.at rh rfl⟩
  · cases (show x = .str _ from ra); cases (show y = .str _ from rb)
    exact iop_add_str pins s σ H _ _ v u Q I rx ry ⟨_, _, rfl, rfl, q.1, q.2.at rh rfl⟩
  · cases (show x = .int _ from ra); cases (show y = .int _ from rb)
    exact iop_sub pins s σ H _ _ v u Q I rx ry ⟨_, _, rfl, rfl, q.at rh rfl⟩
  · exact q.elim
/-- a comparison -/
def rC (M : Mo) (o : CO) : R2 := fun x y H Q => ∃ m h a b, RH M H m h ∧ RV M.K H m a x ∧ RV M.K H m b y ∧ cmpV o a b h (LB M m H fun r H' => Q (.bl r) H')
theorem flP_of {K : PySem.W.Frag} {H : Hp} {m : List Addr} {a : PV} {x : V} (f : flP a = true) (r : RV K H m a x) : flatV x = true := by
  cases a <;> first | exact absurd f Bool.false_ne_true | skip
  · cases (show x = .non from r); rfl
  · cases (show x = .bl _ from r); rfl
  · cases (show x = .int _ from r); rfl
  · cases (show x = .str _ from r); rfl
theorem flPs_of {K : PySem.W.Frag} {H : Hp} {m : List Addr} : ∀ {xs : List PV} {vs : List V}, xs.all flP = true → RVs K H m xs vs → vs.all flatV = true
  | [], vs, f, r => by cases (show vs = [] from r); rfl
  | x :: xs, vs, f, r => by
    obtain ⟨v, w, rfl, r1, r2⟩ := r
    rw [List.all_cons, Bool.and_eq_true] at f ⊢
    exact ⟨flP_of f.1 r1, flPs_of f.2 r2⟩
theorem eqP_of {K : PySem.W.Frag} {H : Hp} {m : List Addr} {a b : PV} {x y : V} (fa : flP a = true) (fb : flP b = true) (ra : RV K H m a x) (rb : RV K H m b y) : eqV x y = eqP a b := by
  cases a <;> first | exact absurd fa Bool.false_ne_true | skip
  all_goals (cases b <;> first | exact absurd fb Bool.false_ne_true | skip)
  all_goals (first | cases (show x = .non from ra) | cases (show x = .bl _ from ra) | cases (show x = .int _ from ra) | cases (show x = .str _ from ra))
  all_goals (first | cases (show y = .non from rb) | cases (show y = .bl _ from rb) | cases (show y = .int _ from rb) | cases (show y = .str _ from rb))
  all_goals rfl
theorem inP_of {K : PySem.W.Frag} {H : Hp} {m : List Addr} {a : PV} {x : V} (fa : flP a = true) (ra : RV K H m a x) : ∀ {xs : List PV} {vs : List V}, xs.all flP = true → RVs K H m xs vs → inV x vs = xs.any fun z => eqP z a
  | [], vs, f, r => by cases (show vs = [] from r); rfl
  | y :: xs, vs, f, r => by
    obtain ⟨v, w, rfl, r1, r2⟩ := r
    rw [List.all_cons, Bool.and_eq_true] at f
    show (eqV v x || inV x w) = (eqP y a || xs.any fun z => eqP z a)
    rw [eqP_of f.1 fa r1 ra, inP_of fa ra f.2 r2]
theorem isRef_of {K : PySem.W.Frag} {H : Hp} {m : List Addr} {a : PV} {x : V} (n : notRef a = false) (r : RV K H m a x) : ∃ p, x = .ref p := by
  cases a with
  | tup xs => obtain ⟨p, vs, e, _⟩ := r; exact ⟨p, e⟩
  | ref a => obtain ⟨p, _, e⟩ := r; exact ⟨p, e⟩
  | non => cases n
  | bl b => cases n
  | int b => cases n
  | str b => cases n
theorem isB_of {K : PySem.W.Frag} {H : Hp} {m : List Addr} {a : PV} {x : V} {b : Bool} (n : notRef a = true) (r : RV K H m a x) : (∀ p, x ≠ .ref p) ∧ (∀ n, x ≠ .ty n) ∧ isBlB b a = decide (x = .bl b) := by
  cases a <;> first | exact absurd n Bool.false_ne_true | skip
  · cases (show x = .non from r); exact ⟨nofun, nofun, rfl⟩
  · cases (show x = .bl _ from r)
    rename_i c
    refine ⟨nofun, nofun, ?_⟩
    cases c <;> cases b <;> rfl
  · cases (show x = .int _ from r); exact ⟨nofun, nofun, rfl⟩
  · cases (show x = .str _ from r); exact ⟨nofun, nofun, rfl⟩
theorem plain_is {h : Heap} {a : Addr} {its : Array Value} (p : PlainL h a its) : h.IsList a its := by
  obtain ⟨o, n, ho, hc, _, hd⟩ := p
  exact ⟨o, ho, hc, n, hd⟩
def rEqL (K : PySem.W.Frag) (r : Bool) : R2 := fun x y H Q => ∃ a b xs ys, x = .ref a ∧ y = .ref b ∧ SqL K H a xs ∧ SqL K H b ys ∧ xs.length ≠ ys.length ∧ Q (.bl r) H
theorem op_eqL (hu : X.A.units < cLine) : OpR X (compareOp .Eq) (rEqL X.K false) := by
  intro pins s σ H x y v u Q I rx ry h
  obtain ⟨a, b, xs, ys, rfl, rfl, h1, h2, ne, q⟩ := h
  cases rx
  cases ry
  obtain ⟨its, rv, p, _⟩ := I.list h1
  obtain ⟨its2, rv2, p2, _⟩ := I.list h2
  have l1 := rv.length
  have l2 := rv2.length
  exact SeqAt.RcAt.lists_lengths (plain_is p) (plain_is p2) (by rw [bne_iff_ne, List.size_toArray, List.size_toArray, ← l1, ← l2]; exact ne) hu _ _ _ _ ⟨.bl _, H, I, rfl, q⟩
theorem op_neL (hu : X.A.units < cLine) : OpR X (compareOp .NotEq) (rEqL X.K true) := by
  intro pins s σ H x y v u Q I rx ry h
  obtain ⟨a, b, xs, ys, rfl, rfl, h1, h2, ne, q⟩ := h
  cases rx
  cases ry
  obtain ⟨its, rv, p, _⟩ := I.list h1
  obtain ⟨its2, rv2, p2, _⟩ := I.list h2
  have l1 := rv.length
  have l2 := rv2.length
  exact SeqAt.RcNeAt.lists_lengths (plain_is p) (plain_is p2) (by rw [bne_iff_ne, List.size_toArray, List.size_toArray, ← l1, ← l2]; exact ne) hu _ _ _ _ ⟨.bl _, H, I, rfl, q⟩
theorem lst_len {M : Mo} {H : Hp} {m : List Addr} {h : PH} {a : Nat} {x : V} {xs : List PV} (rh : RH M H m h) (rv : RV M.K H m (.ref a) x) (e : lstOf h (.ref a) = some xs) : ∃ p vs, x = .ref p ∧ SqL M.K H p vs ∧ vs.length = xs.length := by
  obtain ⟨p, vs, e1, e2, e3⟩ := lstOf_get rh rv e
  exact ⟨p, vs, e1, e2, e3.len.symm⟩
theorem sC (hK : X.K = M.K) (hu : X.A.units + 64 < cLine) : ∀ (o : CO), OpR X (compareOp (copOf o)) (rC M o) := by
  intro o pins s σ H x y v u Q I rx ry h
  obtain ⟨m, hh, a, b, rh, ra, rb, q⟩ := h
  unfold cmpV at q
  split at q
  · cases (show x = .str _ from ra); cases (show y = .str _ from rb)
    rename_i a b
    refine op_eq pins s σ H _ _ v u Q I rx ry ⟨rfl, ?_⟩
    have e : decide (V.str a = V.str b) = decide (a = b) := by rw [Bool.eq_iff_iff, decide_eq_true_iff, decide_eq_true_iff]; exact V.str.injEq a b ▸ Iff.rfl
    rw [e]; exact q.at rh
  · cases (show x = .str _ from ra); cases (show y = .str _ from rb)
    rename_i a b
    refine op_ne pins s σ H _ _ v u Q I rx ry ⟨rfl, ?_⟩
    have e : decide (V.str a = V.str b) = decide (a = b) := by rw [Bool.eq_iff_iff, decide_eq_true_iff, decide_eq_true_iff]; exact V.str.injEq a b ▸ Iff.rfl
    rw [e]; exact q.at rh
  · obtain ⟨c, rfl, q⟩ := q
    cases (show x = .str _ from ra); cases (show y = .str _ from rb)
    exact op_in_sign pins s σ H _ _ v u Q I rx ry ⟨c, _, rfl, rfl, q.at rh⟩
  · obtain ⟨c, rfl, q⟩ := q
    cases (show x = .str _ from ra); cases (show y = .str _ from rb)
    exact op_notIn_sign pins s σ H _ _ v u Q I rx ry ⟨c, _, rfl, rfl, q.at rh⟩
  · obtain ⟨xs, e, f1, f2, q⟩ := q
    obtain ⟨p, vs, rfl, e1, e2⟩ := seqOf_get rh rb e
    refine op_in_seq pins s σ H _ _ v u Q I rx ry ⟨p, vs, rfl, by rw [hK]; exact e1, flP_of f1 ra, flPs_of f2 e2, ?_⟩
    rw [if_neg Bool.false_ne_true, inP_of f1 ra f2 e2]; exact q.at rh
  · obtain ⟨xs, e, f1, f2, q⟩ := q
    obtain ⟨p, vs, rfl, e1, e2⟩ := seqOf_get rh rb e
    refine op_notIn_seq pins s σ H _ _ v u Q I rx ry ⟨p, vs, rfl, by rw [hK]; exact e1, flP_of f1 ra, flPs_of f2 e2, ?_⟩
    rw [if_pos rfl, inP_of f1 ra f2 e2]; exact q.at rh
  · cases (show y = .bl _ from rb)
    obtain ⟨n1, n2, n3⟩ := isB_of q.1 ra
    refine op_isB pins s σ H _ _ v u Q I rx ry ⟨_, rfl, n1, n2, ?_⟩
    rw [← n3]; exact q.2.at rh
  · cases (show y = .bl _ from rb)
    obtain ⟨n1, n2, n3⟩ := isB_of q.1 ra
    refine op_isNB pins s σ H _ _ v u Q I rx ry ⟨_, rfl, n1, n2, ?_⟩
    rw [← n3]; exact q.2.at rh
  · rcases q with ⟨d, e, h1, h2, h3, h4, q⟩ | ⟨p1, p2, xs, ys, rfl, rfl, e1, e2, ne, q⟩
    case inr =>
      obtain ⟨a1, us, rfl, l1, r1⟩ := lst_len rh ra e1
      obtain ⟨a2, ws, rfl, l2, r2⟩ := lst_len rh rb e2
      refine op_eqL (by omega) pins s σ H _ _ v u Q I rx ry ⟨_, _, us, ws, rfl, rfl, by rw [hK]; exact l1, by rw [hK]; exact l2, by rw [r1, r2]; exact ne, q.at rh⟩
    refine op_eqD hu pins s σ H _ _ v u Q I rx ry ⟨d, e, ?_, ?_, h3, h4, q.at rh⟩
    · rw [hK]; exact Dat.dp rh _ _ _ h1 ra
    · rw [hK]; exact Dat.dp rh _ _ _ h2 rb
  · rcases q with ⟨d, e, h1, h2, h3, h4, q⟩ | ⟨p1, p2, xs, ys, rfl, rfl, e1, e2, ne, q⟩
    case inr =>
      obtain ⟨a1, us, rfl, l1, r1⟩ := lst_len rh ra e1
      obtain ⟨a2, ws, rfl, l2, r2⟩ := lst_len rh rb e2
      refine op_neL (by omega) pins s σ H _ _ v u Q I rx ry ⟨_, _, us, ws, rfl, rfl, by rw [hK]; exact l1, by rw [hK]; exact l2, by rw [r1, r2]; exact ne, q.at rh⟩
    refine op_neD hu pins s σ H _ _ v u Q I rx ry ⟨d, e, ?_, ?_, h3, h4, q.at rh⟩
    · rw [hK]; exact Dat.dp rh _ _ _ h1 ra
    · rw [hK]; exact Dat.dp rh _ _ _ h2 rb
  · cases (show x = .int _ from ra); cases (show y = .int _ from rb)
    exact op_lt pins s σ H _ _ v u Q I rx ry ⟨_, _, rfl, rfl, q.at rh⟩
  · cases (show x = .int _ from ra); cases (show y = .int _ from rb)
    exact op_le pins s σ H _ _ v u Q I rx ry ⟨_, _, rfl, rfl, q.at rh⟩
  · cases (show x = .int _ from ra); cases (show y = .int _ from rb)
    exact op_gt pins s σ H _ _ v u Q I rx ry ⟨_, _, rfl, rfl, q.at rh⟩
  · cases (show x = .int _ from ra); cases (show y = .int _ from rb)
    exact op_ge pins s σ H _ _ v u Q I rx ry ⟨_, _, rfl, rfl, q.at rh⟩
  · cases (show y = .non from rb)
    refine op_isN pins s σ H _ _ v u Q I rx ry ⟨rfl, ?_⟩
    rw [← ra.isN]; exact q.at rh
  · cases (show y = .non from rb)
    refine op_notN pins s σ H _ _ v u Q I rx ry ⟨rfl, ?_⟩
    rw [← ra.isN]; exact q.at rh
  · exact q.elim
theorem tail_anyG {X : Cx} {pins : List (Addr × Obj)} {σ : L2.St} {H : Hp} {s : Shared} {a : Addr} {y w : V} {u : Value} {value slice : Expr} {Q : VK} (hu : X.A.units + 1 < cLine) (I : L2.Inv X pins σ H s) (g : DGet H a y (some w)) (ry : RelV y u) (q : Q w H) (hs : subscripted slice false (.ref a) u = operate [.ref a, u] (getItem (.ref a) u)) :
    wpAny (model X.prog X.w) X.A (subscriptTail value slice (.ref a) u) (EP X pins σ Q) X.xe s := by
  unfold subscriptTail
  refine wpAny_bind ?_
  rw [getitemInPython_of_ne (dict_typeIs I g).not_modules]
  refine wpAny_bind (wpAny_specialOf (dict_typeIs I g) PySem.F.slot_dict_getitem.lookup ?_)
  have fin : wpAny (model X.prog X.w) X.A (subscripted slice false (.ref a) u) (fun r s₃ => wpAny (model X.prog X.w) X.A (letTemporaryGo value (.ref a) r >>= fun _ => pure r) (EP X pins σ Q) X.xe s₃) X.xe s := by
    rw [hs]
    exact wpAny_operating (d_getItem hu I g ry fun w' s3 I3 rw' => wpAny_bind (wpAny_letTemporaryGo (wpAny_pure ⟨w, H, I3, rw', q⟩)))
  first
    | exact wpAny_pure (wpAny_bind fin)
    | exact wpAny_bind (wpAny_pure (wpAny_bind fin))
    | exact wpAny_bind fin
    | exact wpAny_pure fin
theorem sIx_ (hK : X.K = M.K) (hu : X.A.units + 1 < cLine) : IxR X (r2 M idxV) := by
  intro value slice pins s σ H x y v u Q I rx ry h hs
  obtain ⟨m, hh, a, b, rh, ra, rb, q⟩ := h
  unfold idxV at q
  split at q
  · obtain ⟨z, e, q⟩ := q
    obtain ⟨p, vs, rfl, e1, e2⟩ := ra
    cases (show y = .int _ from rb)
    obtain ⟨w, e3, e4⟩ := e2.atI e
    exact ix_tup value slice pins s σ H _ _ v u Q I rx ry ⟨p, vs, _, w, rfl, rfl, by rw [hK]; exact e1, e3, q.at rh e4⟩ hs
  · obtain ⟨hl, c, e, q⟩ := q
    cases (show x = .str _ from ra); cases (show y = .int _ from rb)
    exact ix_str value slice pins s σ H _ _ v u Q I rx ry ⟨_, _, c, rfl, rfl, hl, e, q.at rh rfl⟩ hs
  · obtain ⟨xs, z, e0, e, q⟩ := q
    obtain ⟨p, vs, rfl, e1, e2⟩ := lstOf_get rh ra e0
    cases (show y = .int _ from rb)
    obtain ⟨w, e3, e4⟩ := e2.atI e
    exact ix_list value slice pins s σ H _ _ v u Q I rx ry ⟨p, vs, _, w, rfl, rfl, by rw [hK]; exact e1, e3, q.at rh e4⟩ hs
  · rename_i k
    obtain ⟨kvs, z, e0, e, q⟩ := q
    cases (show y = .str k from rb)
    obtain ⟨p, ep, rfl⟩ := ra
    obtain ⟨ks, e4, rk⟩ := rh.obj _ _ _ e0 ep
    cases rx
    have lk := look_of (k := .str k) (q := .inr k) rfl rk
    rw [e] at lk
    cases e6 : valV ks (.inr k) with
    | none => rw [e6] at lk; exact lk.elim
    | some w =>
      rw [e6] at lk
      have g : DGet H p (.str k) (some w) := by rw [← e6]; exact DGet.k (k := .inr k) e4
      exact tail_anyG hu I g ry (q.at rh lk) hs
  · exact q.elim
def rS (M : Mo) : V → Option Int → Option Int → Hp → VK → Prop := fun x lo hi H Q => ∃ m h a, RH M H m h ∧ RV M.K H m a x ∧ slcV a lo hi h (LQ M m H Q)
theorem sSl (hK : X.K = M.K) : SlR X (rS M) := by
  intro pins s σ H x v vl vu lo hi sl Q I rx hs pl pu h
  obtain ⟨m, hh, a, rh, ra, q⟩ := h
  cases a with
  | tup xs =>
    have q : LQ M m H Q (.tup (Py.cut xs lo hi)) hh := q
    obtain ⟨p, vs, rfl, e1, e2⟩ := ra
    have el := e2.len
    have ee : ∀ n d o, HT.sIx n d o = Py.sIx n d o := fun n d o => by cases o <;> rfl
    refine sl_tupA pins s σ H _ v vl vu lo hi sl Q I rx hs pl pu ⟨p, vs, rfl, by rw [hK]; exact e1, fun hw => ?_, fun hw p2 hp2 => ?_⟩
    · refine q.at rh ?_
      rw [cut_whole xs lo hi (by rw [el, ← ee]; exact hw.1) (by rw [el, ← ee]; exact hw.2)]
      exact ⟨p, vs, rfl, e1, e2⟩
    · refine q m (upd H p2 (.tup (cutV vs lo hi))) _ (Ex.refl m) (Kp.upd_new hp2) ?_ ⟨p2, cutV vs lo hi, rfl, .inl (.inl upd_same), (e2.cut lo hi).mono (Kp.upd_new hp2) (Ex.refl m) _ _⟩
      exact ⟨rh.len, fun c o q' e1 e2 => (rh.obj c o q' e1 e2).mono (Kp.upd_new hp2) (Ex.refl m) fun u' e => (upd_ne (ne_of_none e hp2)).trans e, rh.inj⟩
  | ref a =>
    obtain ⟨xs, e0, q⟩ := (show ∃ xs, lstOf hh (.ref a) = some xs ∧ LQ M m H Q (.ref hh.length) (hh ++ [.lst (Py.cut xs lo hi)]) from q)
    obtain ⟨p, vs, rfl, e1, e2⟩ := lstOf_get rh ra e0
    refine sl_list pins s σ H _ v vl vu lo hi sl Q I rx hs pl pu ⟨p, vs, rfl, by rw [hK]; exact e1, ?_⟩
    exact q.new rh rfl fun p2 hp2 => ⟨_, upd_same, (e2.cut lo hi).mono (Kp.upd_new hp2) (Ex.app m p2) _ _⟩
  | str z =>
    obtain ⟨hz, q⟩ := (show z.length ≤ SZ ∧ LQ M m H Q (.str ⟨(Py.cut z.cps.toList lo hi).toArray⟩) hh from q)
    cases (show x = .str z from ra)
    have ee : ∀ n d o, HT.sIx n d o = Py.sIx n d o := fun n d o => by cases o <;> rfl
    have el : z.cps.toList.length = z.length := Array.length_toList
    have e : cutS z lo hi = ⟨(Py.cut z.cps.toList lo hi).toArray⟩ := by
      unfold cutS Py.cut
      rw [el, ee, ee]
    refine sl_str pins s σ H _ v vl vu lo hi sl Q I rx hs pl pu ⟨z, rfl, hz, ?_⟩
    rw [e]
    exact q.at rh rfl
  | _ => exact (show False from q).elim
end
/-- a tuple laid -/
theorem RH.tup {M : Mo} {H : Hp} {m : List Addr} {h : PH} {p : Addr} {u : HO} (r : RH M H m h) (hp : H p = none) : RH M (upd H p u) m h :=
  ⟨r.len, fun c o q' e1 e2 => (r.obj c o q' e1 e2).mono (Kp.upd_new hp) (Ex.refl m) fun u' e => (upd_ne (ne_of_none e hp)).trans e, r.inj⟩

/-! ### built-in functions -/
def rF (M : Mo) (f : BF) : List V → Hp → VK → Prop := fun ws H Q => ∃ m h vs, RH M H m h ∧ RVs M.K H m vs ws ∧ bfV f vs h (LQ M m H Q)
theorem RVs.one_of {K : PySem.W.Frag} {H : Hp} {m : List Addr} {x : PV} {ws : List V} (h : RVs K H m [x] ws) : ∃ w, ws = [w] ∧ RV K H m x w := by
  obtain ⟨w, r, rfl, a, b⟩ := h
  cases (show r = [] from b)
  exact ⟨w, rfl, a⟩
theorem RVs.two_of {K : PySem.W.Frag} {H : Hp} {m : List Addr} {x y : PV} {ws : List V} (h : RVs K H m [x, y] ws) : ∃ w z, ws = [w, z] ∧ RV K H m x w ∧ RV K H m y z := by
  obtain ⟨w, r, rfl, a, b⟩ := h
  obtain ⟨z, rfl, c⟩ := b.one_of
  exact ⟨w, z, rfl, a, c⟩
/-- a built-in type of a value -/
theorem tyN_of {M : Mo} {H : Hp} {m : List Addr} {h : PH} {v : PV} {w : V} {t : String} (r : RH M H m h) (rv : RV M.K H m v w) (e : tyN h v = some t) : TyX M.K H w (.type t) := by
  cases v with
  | non => cases e; cases (show w = .non from rv); exact .base .non
  | bl b => cases e; cases (show w = .bl b from rv); exact .base (.bl b)
  | int b => cases e; cases (show w = .int b from rv); exact .base (.int b)
  | str b => cases e; cases (show w = .str b from rv); exact .base (.str b)
  | tup xs =>
    cases e
    obtain ⟨p, vs, rfl, e1, e2⟩ := rv
    rcases e1 with (e1 | ⟨o, e1⟩) | ⟨o, its, n, e1, e3, _⟩
    · exact .base (.tup e1)
    · exact .fTuple e1
    · exact .kTuple e1 e3
  | ref a =>
    obtain ⟨p, e1, rfl⟩ := rv
    unfold tyN at e
    dsimp only at e
    split at e
    · rename_i xs e2
      cases e
      obtain ⟨vs, e3, _⟩ := r.obj _ _ _ e2 e1
      exact .base (.lst e3)
    · rename_i xs e2
      cases e
      obtain ⟨vs, e3, _⟩ := r.obj _ _ _ e2 e1
      rcases e3 with ⟨o, e3⟩ | ⟨o, its, n, e3, e4, _⟩
      · exact .base (.frz e3)
      · exact .kList e3 e4
    · rename_i xs e2
      cases e
      obtain ⟨vs, e3, _⟩ := r.obj _ _ _ e2 e1
      exact .base (.dK e3)
    · cases e
theorem isB_kit {K : PySem.W.Frag} {T t : String} (hT : T = "int" ∨ T = "bool" ∨ T = "str" ∨ T = "list" ∨ T = "tuple") (ht : t = "NoneType" ∨ t = "bool" ∨ t = "int" ∨ t = "str" ∨ t = "tuple" ∨ t = "list" ∨ t = "dict") :
    PySem.W.kitOne K (.type t) (.type T) = some (isB T t) := by
  rcases hT with rfl | rfl | rfl | rfl | rfl <;> rcases ht with rfl | rfl | rfl | rfl | rfl | rfl | rfl <;> exact kit_ty (by decide +kernel)
theorem tyN_in {h : PH} {v : PV} {t : String} (e : tyN h v = some t) : t = "NoneType" ∨ t = "bool" ∨ t = "int" ∨ t = "str" ∨ t = "tuple" ∨ t = "list" ∨ t = "dict" := by
  unfold tyN at e
  split at e
  · cases e; simp
  · cases e; simp
  · cases e; simp
  · cases e; simp
  · cases e; simp
  · split at e
    · cases e; simp
    · cases e; simp
    · cases e; simp
    · cases e
section
variable {M : Mo} {X : Cx}
/-- isinstance(x, T) by values -/
theorem sIsi (hK : X.K = M.K) {T : String} (hT : T = "int" ∨ T = "bool" ∨ T = "str" ∨ T = "list" ∨ T = "tuple") :
    CallR X (.builtin "isinstance") (fun ws H Q => ∃ m h v w t, RH M H m h ∧ ws = [w, .ty T] ∧ RV M.K H m v w ∧ tyN h v = some t ∧ Q (.bl (isB T t)) H) := by
  intro pins s σ H xs us Q I r h
  obtain ⟨m, h, v, w, t, rh, rfl, rv, e, q⟩ := h
  exact call_isi pins s σ H _ us Q I r ⟨w, .ty T, .type t, .type T, isB T t, rfl, .ty T, by rw [hK]; exact tyN_of rh rv e, isB_kit hT (tyN_in e), q⟩
theorem sLen (hK : X.K = M.K) : CallR X (.builtin "len") (rF M .len) := by
  intro pins s σ H xs us Q I r h
  obtain ⟨m, h, vs, rh, rv, q⟩ := h
  unfold bfV at q
  split at q
  · obtain ⟨w, rfl, rw_⟩ := rv.one_of
    cases (show w = .str _ from rw_)
    exact call_len_str pins s σ H _ us Q I r ⟨_, rfl, q.1, q.2.at rh rfl⟩
  · obtain ⟨ys, e, q⟩ := q
    obtain ⟨w, rfl, rw_⟩ := rv.one_of
    obtain ⟨p, zs, rfl, e1, e2⟩ := seqOf_get rh rw_ e
    refine call_len_seq pins s σ H _ us Q I r ⟨p, zs, rfl, by rw [hK]; exact e1, ?_⟩
    rw [← e2.len]
    exact q.at rh rfl
  all_goals first | exact q.elim | (rename_i h0; cases h0)
theorem sList1 (hK : X.K = M.K) : CallR X (.type "list") (rF M .list1) := by
  intro pins s σ H xs us Q I r h
  obtain ⟨m, h, vs, rh, rv, q⟩ := h
  match vs, q with
  | [v], q =>
    obtain ⟨ys, e, q⟩ := (show ∃ xs, seqOf h v = some xs ∧ LQ M m H Q (.ref h.length) (h ++ [.lst xs]) from q)
    obtain ⟨w, rfl, rw_⟩ := rv.one_of
    obtain ⟨p, zs, rfl, e1, e2⟩ := seqOf_get rh rw_ e
    refine call_list_of pins s σ H _ us Q I r ⟨p, zs, rfl, by rw [hK]; exact e1, ?_⟩
    exact q.new rh rfl fun p2 hp2 => ⟨_, upd_same, e2.mono (Kp.upd_new hp2) (Ex.app m p2) _ _⟩
  | [], q => exact (show False from q).elim
  | _ :: _ :: _, q => exact (show False from q).elim
theorem sTuple1 (hK : X.K = M.K) : CallR X (.type "tuple") (rF M .tuple1) := by
  intro pins s σ H xs us Q I r h
  obtain ⟨m, h, vs, rh, rv, q⟩ := h
  have main : ∀ (v : PV) (ys : List PV) (w : V), RV M.K H m v w → xs = [w] → (v = .tup ys ∨ lstOf h v = some ys) → LQ M m H Q (.tup ys) h → wpAny (model X.prog X.w) X.A (call (.type "tuple") us) (EP X pins σ Q) X.xe s := by
    intro v ys w rw_ hx e q
    subst hx
    rcases e with e | e
    · subst e
      obtain ⟨p, zs, rfl, e1, e2⟩ := rw_
      exact call_tuple_of pins s σ H _ us Q I r ⟨p, zs, rfl, .inr ⟨by rw [hK]; exact e1, q.at rh ⟨p, zs, rfl, e1, e2⟩⟩⟩
    · obtain ⟨p, zs, rfl, e1, e2⟩ := lstOf_get rh rw_ e
      refine call_tuple_of pins s σ H _ us Q I r ⟨p, zs, rfl, .inl ⟨by rw [hK]; exact e1, fun l hl => ?_⟩⟩
      exact q m (upd H l (.tup zs)) _ (Ex.refl m) (Kp.upd_new hl) (rh.tup hl) ⟨l, zs, rfl, .inl (.inl upd_same), e2.mono (Kp.upd_new hl) (Ex.refl m) _ _⟩
  match vs, q with
  | [.tup ys], q =>
    obtain ⟨w, hx, rw_⟩ := rv.one_of
    exact main _ ys w rw_ hx (.inl rfl) q
  | [.ref a], q =>
    obtain ⟨ys, e, q⟩ := (show ∃ xs, lstOf h (.ref a) = some xs ∧ LQ M m H Q (.tup xs) h from q)
    obtain ⟨w, hx, rw_⟩ := rv.one_of
    exact main _ ys w rw_ hx (.inr e) q
  | [.non], q => obtain ⟨ys, e, q⟩ := (show ∃ xs, lstOf h .non = some xs ∧ LQ M m H Q (.tup xs) h from q); cases e
  | [.bl b], q => obtain ⟨ys, e, q⟩ := (show ∃ xs, lstOf h (.bl b) = some xs ∧ LQ M m H Q (.tup xs) h from q); cases e
  | [.int b], q => obtain ⟨ys, e, q⟩ := (show ∃ xs, lstOf h (.int b) = some xs ∧ LQ M m H Q (.tup xs) h from q); cases e
  | [.str b], q => obtain ⟨ys, e, q⟩ := (show ∃ xs, lstOf h (.str b) = some xs ∧ LQ M m H Q (.tup xs) h from q); cases e
  | [], q => exact (show False from q).elim
  | a :: _ :: _, q => cases a <;> exact (show False from q).elim
theorem sMin2 (hc : X.calm = true) : CallR X (.builtin "min") (rF M .min2) := by
  intro pins s σ H xs us Q I r h
  obtain ⟨m, h, vs, rh, rv, q⟩ := h
  unfold bfV at q
  split at q
  all_goals first | (rename_i h0; cases h0; done) | skip
  · obtain ⟨w, z, rfl, r1, r2⟩ := rv.two_of
    cases (show w = .int _ from r1); cases (show z = .int _ from r2)
    exact call_min2 hc pins s σ H _ us Q I r ⟨_, _, rfl, q.at rh rfl⟩
  · exact q.elim
theorem sMax2 (hc : X.calm = true) : CallR X (.builtin "max") (rF M .max2) := by
  intro pins s σ H xs us Q I r h
  obtain ⟨m, h, vs, rh, rv, q⟩ := h
  unfold bfV at q
  split at q
  all_goals first | (rename_i h0; cases h0; done) | skip
  · obtain ⟨w, z, rfl, r1, r2⟩ := rv.two_of
    cases (show w = .int _ from r1); cases (show z = .int _ from r2)
    exact call_max2 hc pins s σ H _ us Q I r ⟨_, _, rfl, q.at rh rfl⟩
  · exact q.elim
theorem sAbs : CallR X (.builtin "abs") (rF M .abs) := by
  intro pins s σ H xs us Q I r h
  obtain ⟨m, h, vs, rh, rv, q⟩ := h
  unfold bfV at q
  split at q
  all_goals first | (rename_i h0; cases h0; done) | skip
  · obtain ⟨w, rfl, r1⟩ := rv.one_of
    cases (show w = .int _ from r1)
    exact call_abs pins s σ H _ us Q I r ⟨_, rfl, q.at rh rfl⟩
  · exact q.elim
theorem RVs.ints {K : PySem.W.Frag} {H : Hp} {m : List Addr} : ∀ {ns : List Int} {vs : List V}, RVs K H m (ns.map PV.int) vs → vs = ns.map V.int
  | [], vs, h => h
  | n :: ns, vs, h => by
    obtain ⟨v, r, rfl, a, b⟩ := h
    cases (show v = .int n from a)
    rw [RVs.ints b]; rfl
theorem RVs.bls {K : PySem.W.Frag} {H : Hp} {m : List Addr} : ∀ {ns : List Bool} {vs : List V}, RVs K H m (ns.map PV.bl) vs → vs = ns.map V.bl
  | [], vs, h => h
  | n :: ns, vs, h => by
    obtain ⟨v, r, rfl, a, b⟩ := h
    cases (show v = .bl n from a)
    rw [RVs.bls b]; rfl
theorem RVs.strs {K : PySem.W.Frag} {H : Hp} {m : List Addr} : ∀ {ns : List Str} {vs : List V}, RVs K H m (ns.map PV.str) vs → vs = ns.map V.str
  | [], vs, h => h
  | n :: ns, vs, h => by
    obtain ⟨v, r, rfl, a, b⟩ := h
    cases (show v = .str n from a)
    rw [RVs.strs b]; rfl
theorem RVs.of_strs {K : PySem.W.Frag} {H : Hp} {m : List Addr} : ∀ {ns : List Str}, RVs K H m (ns.map PV.str) (ns.map V.str)
  | [] => rfl
  | n :: ns => ⟨.str n, ns.map V.str, rfl, rfl, RVs.of_strs⟩
theorem sSumL (hK : X.K = M.K) (hc : X.calm = true) : CallR X (.builtin "sum") (rF M .sumL) := by
  intro pins s σ H xs us Q I r h
  obtain ⟨m, h, vs, rh, rv, q⟩ := h
  unfold bfV at q
  split at q
  all_goals first | (rename_i h0; cases h0; done) | skip
  · obtain ⟨ns, e, q⟩ := q
    obtain ⟨w, rfl, rw_⟩ := rv.one_of
    obtain ⟨p, zs, rfl, e1, e2⟩ := lstOf_get rh rw_ e
    cases e2.ints
    exact cr_sum hc pins s σ H _ us Q I r ⟨p, ns, rfl, by rw [hK]; exact e1, q.at rh rfl⟩
  · exact q.elim
theorem sMaxL (hK : X.K = M.K) (hc : X.calm = true) : CallR X (.builtin "max") (rF M .maxL) := by
  intro pins s σ H xs us Q I r h
  obtain ⟨m, h, vs, rh, rv, q⟩ := h
  unfold bfV at q
  split at q
  all_goals first | (rename_i h0; cases h0; done) | skip
  · obtain ⟨ns, mx, e, hm, hb, q⟩ := q
    obtain ⟨w, rfl, rw_⟩ := rv.one_of
    obtain ⟨p, zs, rfl, e1, e2⟩ := lstOf_get rh rw_ e
    cases e2.ints
    refine cr_max hc pins s σ H _ us Q I r ⟨p, ns, rfl, by rw [hK]; exact e1, List.length_pos_of_mem hm, fun m' hm' hb' => ?_⟩
    rw [Int.le_antisymm (hb m' hm') (hb' mx hm)]
    exact q.at rh rfl
  · exact q.elim
theorem sMinL (hK : X.K = M.K) (hc : X.calm = true) : CallR X (.builtin "min") (rF M .minL) := by
  intro pins s σ H xs us Q I r h
  obtain ⟨m, h, vs, rh, rv, q⟩ := h
  unfold bfV at q
  split at q
  all_goals first | (rename_i h0; cases h0; done) | skip
  · obtain ⟨ns, mx, e, hm, hb, q⟩ := q
    obtain ⟨w, rfl, rw_⟩ := rv.one_of
    obtain ⟨p, zs, rfl, e1, e2⟩ := lstOf_get rh rw_ e
    cases e2.ints
    refine cr_min hc pins s σ H _ us Q I r ⟨p, ns, rfl, by rw [hK]; exact e1, List.length_pos_of_mem hm, fun m' hm' hb' => ?_⟩
    rw [Int.le_antisymm (hb' mx hm) (hb m' hm')]
    exact q.at rh rfl
  · exact q.elim
theorem sAll1 (hK : X.K = M.K) (hc : X.calm = true) : CallR X (.builtin "all") (rF M .all1) := by
  intro pins s σ H xs us Q I r h
  obtain ⟨m, h, vs, rh, rv, q⟩ := h
  unfold bfV at q
  split at q
  all_goals first | (rename_i h0; cases h0; done) | skip
  · obtain ⟨ns, e, q⟩ := q
    obtain ⟨w, rfl, rw_⟩ := rv.one_of
    obtain ⟨p, zs, rfl, e1, e2⟩ := lstOf_get rh rw_ e
    cases e2.bls
    exact cr_all hc pins s σ H _ us Q I r ⟨p, ns, rfl, by rw [hK]; exact e1, q.at rh rfl⟩
  · exact q.elim
theorem prs_rel {K : PySem.W.Frag} {H : Hp} {m : List Addr} : ∀ (prs : List (PV × PV)) (zs : List V), (prs.all fun p => isK p.1) = true → RVs K H m (prs.map fun p => .tup [p.1, p.2]) zs →
    ∃ (ps : List Addr) (kvs : List (Key × V)), zs = ps.map V.ref ∧ Paired (fun p kv => SqT K H p [kV kv.1, kv.2]) ps kvs ∧ ∀ a b, RKs K H m a b → RKs K H m (mergeP a prs) (mergeK b kvs)
  | [], zs, _, h => by cases (show zs = [] from h); exact ⟨[], [], rfl, .nil, fun a b r => r⟩
  | (k, v) :: r, zs, ha, h => by
    obtain ⟨z, rest, rfl, h1, h2⟩ := h
    obtain ⟨hk, ha⟩ := Bool.and_eq_true_iff.mp (show (isK k && r.all fun p => isK p.1) = true from ha)
    obtain ⟨p, vs, rfl, s, x1, _, rfl, hx1, x2, _, rfl, hx2, e⟩ := h1
    cases (show _ = [] from e)
    obtain ⟨ps, kvs, rfl, hp, hm⟩ := prs_rel r rest ha h2
    cases k with
    | int i =>
      cases (show x1 = .int i from hx1)
      exact ⟨p :: ps, (.inl i, x2) :: kvs, rfl, .cons s hp, fun a b r => hm _ _ (put_of (k := .int i) (q := .inl i) rfl hx2 r)⟩
    | str i =>
      cases (show x1 = .str i from hx1)
      exact ⟨p :: ps, (.inr i, x2) :: kvs, rfl, .cons s hp, fun a b r => hm _ _ (put_of (k := .str i) (q := .inr i) rfl hx2 r)⟩
    | _ => cases hk
theorem sDict1 (hK : X.K = M.K) (hc : X.calm = true) : CallR X (.type "dict") (rF M .dict1) := by
  intro pins s σ H xs us Q I r h
  obtain ⟨m, h, vs, rh, rv, q⟩ := h
  match vs, q with
  | [v], q =>
    obtain ⟨prs, e, ek, q⟩ := (show ∃ prs : List (PV × PV), lstOf h v = some (prs.map fun p => .tup [p.1, p.2]) ∧ (prs.all fun p => isK p.1) = true ∧ LQ M m H Q (.ref h.length) (h ++ [.dic (mergeP [] prs)]) from q)
    obtain ⟨w, rfl, rw_⟩ := rv.one_of
    obtain ⟨p, zs, rfl, e1, e2⟩ := lstOf_get rh rw_ e
    obtain ⟨ps, kvs, rfl, hp, hm⟩ := prs_rel prs zs ek e2
    refine call_dictP hc pins s σ H _ us Q I r ⟨p, ps, kvs, rfl, by rw [hK]; exact e1, by rw [hK]; exact hp, ?_⟩
    exact q.new rh rfl fun p2 hp2 => ⟨_, upd_same, (hm [] [] rfl).mono (Kp.upd_new hp2) (Ex.app m p2)⟩
  | [], q => exact (show False from q).elim
  | _ :: _ :: _, q => exact (show False from q).elim
theorem sInt1 : CallR X (.type "int") (rF M .int1) := by
  intro pins s σ H xs us Q I r h
  obtain ⟨m, h, vs, rh, rv, q⟩ := h
  unfold bfV at q
  split at q
  all_goals first | (rename_i h0; cases h0; done) | skip
  · obtain ⟨w, rfl, r1⟩ := rv.one_of
    cases (show w = .int _ from r1)
    exact call_int1 pins s σ H _ us Q I r (.inl ⟨_, rfl, q.at rh rfl⟩)
  · obtain ⟨w, rfl, r1⟩ := rv.one_of
    cases (show w = .bl _ from r1)
    exact call_int1 pins s σ H _ us Q I r (.inr ⟨_, rfl, q.at rh rfl⟩)
  · exact q.elim
theorem sStr1 : CallR X (.type "str") (rF M .str1) := by
  intro pins s σ H xs us Q I r h
  obtain ⟨m, h, vs, rh, rv, q⟩ := h
  unfold bfV at q
  split at q
  all_goals first | (rename_i h0; cases h0; done) | skip
  · obtain ⟨w, rfl, r1⟩ := rv.one_of
    cases (show w = .int _ from r1)
    exact call_str_int pins s σ H _ us Q I r ⟨_, rfl, q.1, q.2.at rh rfl⟩
  · obtain ⟨w, rfl, r1⟩ := rv.one_of
    cases (show w = .str _ from r1)
    exact SkE.call_str_str pins s σ H _ us Q I r ⟨_, rfl, q.at rh rfl⟩
  · exact q.elim
theorem sRepr1 (hK : X.K = M.K) (hg : X.A.guards = some []) (hu : X.A.units + 66 < cLine) : CallR X (.builtin "repr") (rF M .repr1) := by
  intro pins s σ H xs us Q I r h
  obtain ⟨m, h, vs, rh, rv, q⟩ := h
  unfold bfV at q
  split at q
  all_goals first | (rename_i h0; cases h0; done) | skip
  · obtain ⟨w, rfl, r1⟩ := rv.one_of
    cases (show w = .bl _ from r1)
    exact call_repr_bool pins s σ H _ us Q I r ⟨_, rfl, q.at rh rfl⟩
  · obtain ⟨w, rfl, r1⟩ := rv.one_of
    cases (show w = .str _ from r1)
    exact call_repr_str pins s σ H _ us Q I r ⟨_, rfl, q.1, q.2.at rh rfl⟩
  · obtain ⟨w, rfl, r1⟩ := rv.one_of
    cases (show w = .int _ from r1)
    exact call_repr_int pins s σ H _ us Q I r ⟨_, rfl, q.1, q.2.at rh rfl⟩
  · obtain ⟨w, rfl, r1⟩ := rv.one_of
    cases (show w = .non from r1)
    exact call_repr_none pins s σ H _ us Q I r ⟨rfl, q.at rh rfl⟩
  · obtain ⟨d, n, q1, q2, q3, q4, q⟩ := q
    obtain ⟨w, rfl, r1⟩ := rv.one_of
    have dp := Dat.dp rh d _ w q1 r1
    obtain ⟨p, rfl⟩ := isRef_of n r1
    exact call_repr hg hu pins s σ H _ us Q I r ⟨p, d, rfl, by rw [hK]; exact dp, q2, q3, q4, q.at rh rfl⟩
  · exact q.elim
end
end Py

set_option Elab.async false
set_option linter.all false
set_option maxRecDepth 100000
set_option maxHeartbeats 4000000
/-! PySound3: expressions. -/
namespace Py
open PySem PySem.Spec PyProof.Rows L2

/-! ### the match of our syntax with the text's -/
abbrev Sco := List (Str × NameKind)
def glB (sc : Sco) (x : Str) : Bool := (match sc.lookup x with
  | some .globalImplicit => true
  | _ => false) && !(x == ("__debug__" : Str))
def visB (sc : Sco) (x : Str) : Bool := match sc.lookup x with
  | some .local => true
  | some .cell => true
  | some .free => true
  | _ => false
def bopB (o : BO) (p : Operator) : Bool := decide (bopOf o = p)
def bfNm : BF → Str
  | .len => "len" | .list1 => "list" | .tuple1 => "tuple" | .tuple0 => "tuple" | .min2 => "min" | .max2 => "max" | .minL => "min" | .maxL => "max" | .sumL => "sum" | .abs => "abs" | .int1 => "int" | .str1 => "str" | .repr1 => "repr"
  | .sorted1 => "sorted" | .all1 => "all" | .dict1 => "dict" | .dict0 => "dict" | _ => "isinstance"
def isTyB : BF → Bool
  | .isInt => true | .isBool => true | .isStr => true | .isList => true | .isTuple => true | _ => false
def plainT : Expr → Bool
  | .BoolOp .. => false
  | .UnaryOp .Not _ _ => false
  | .Compare .. => false
  | .NamedExpr .. => false
  | .IfExp .. => false
  | _ => true
def locB (dc : Bool) (sc : Sco) (x : Str) : Bool := match sc.lookup x with
  | some .local => true
  | some .cell => dc
  | _ => false
def notSet : Expr → Bool
  | .Set .. => false
  | _ => true
def baseB : Expr → Bool
  | .Call (.Name _ _) [] [] _ => false
  | _ => true
def bmNm : BM → Str
  | .append => "append" | .extend => "extend" | .pop0 => "pop" | .pop1 => "pop" | .insert => "insert" | .reverse => "reverse" | .clear => "clear" | .index => "index" | .get1 => "get" | .get2 => "get" | .join => "join" | .split => "split" | .startswith => "startswith" | .update => "update" | .isalnum => "isalnum" | .upper => "upper"
/-- a built-in method that is read here, by its number of arguments -/
def bmB : BM → Nat → Bool
  | .append, 1 => true
  | .extend, 1 => true
  | .pop0, 0 => true
  | .reverse, 0 => true
  | .clear, 0 => true
  | .pop1, 1 => true
  | .join, 1 => true
  | .split, 1 => true
  | .startswith, 1 => true
  | .isalnum, 0 => true
  | .upper, 0 => true
  | _, _ => false
mutual
/-- names alone -/
def tnB : T → Bool
  | .nm _ => true
  | .tup ts => tnsB ts
  | _ => false
def tnsB : Ts → Bool
  | .nil => true
  | .cons t ts => tnB t && tnsB ts
end
def relB (scope : Scope) (sc : Sco) : Sco := scope.names.map fun (n, k) => if (k == .free && (sc.lookup n) == some .cell) then (n, .cell) else (n, k)
def ownOf (N : List Str) (t : T) : List (Str × Nat) := (tNs t).map fun i => (N.getD i "", i)
def blkB (N : List Str) (sc : Sco) (scope : Scope) (own : List (Str × Nat)) : Bool := blkC N { scope with names := sc } scope own
def kwB (M : Me) (c : Nat) (kn : Str) : Bool := match M.G.cls c with
  | some cd => (match M.G.fn cd.init with
    | some d => decide (d.kw.map M.nm = some kn) && !cd.bare
    | none => false)
  | none => false
def iniB (M : Me) (c : Nat) : Bool := match M.G.cls c with
  | some cd => cd.base && !cd.bare
  | none => false
def mkB (M : Me) (c : Nat) : Bool := match M.G.cls c with
  | some cd => !cd.bare
  | none => false
def mk0B (M : Me) (c : Nat) : Bool := match M.G.cls c with
  | some cd => cd.bare
  | none => false
mutual
def mE (M : Me) (N : List Str) (sc : Sco) : E → Expr → Bool
  | .var i, .Name x _ => decide (N[i]? = some x) && visB sc x && !(x == ("__debug__" : Str)) && !(x == ("__classdict__" : Str))
  | .int i, .Constant (.int j) _ _ => decide (i = j)
  | .str s, .Constant (.str t) _ _ => decide (s = t)
  | .bl b, .Constant (.bool c) _ _ => decide (b = c)
  | .non, .Constant .none _ _ => true
  | .glob g, .Name x _ => decide (M.nm g = x) && glB sc x
  | .bin o a b, .BinOp x p y _ => bopB o p && mE M N sc a x && mE M N sc b y
  | .neg a, .UnaryOp .USub x _ => mE M N sc a x
  | .nt a, .UnaryOp .Not x _ => mE M N sc a x
  | .and a b, .BoolOp .And (x :: y :: r) p => mE M N sc a x && (match r with
    | [] => mE M N sc b y
    | _ => mE M N sc b (.BoolOp .And (y :: r) p))
  | .or a b, .BoolOp .Or (x :: y :: r) p => mE M N sc a x && (match r with
    | [] => mE M N sc b y
    | _ => mE M N sc b (.BoolOp .Or (y :: r) p))
  | .cmp o a b, .Compare x [p] [y] _ => decide (copOf o = p) && !behindInMarks p y && mE M N sc a x && mE M N sc b y
  | .chain o o' a b c, .Compare x [p, p'] [y, z] _ => decide (copOf o = p) && decide (copOf o' = p') && !lastMarks [p, p'] [y, z] && mE M N sc a x && mE M N sc b y && mE M N sc c z
  | .ite c a b, .IfExp x y z _ => mC M N sc c x && mE M N sc a y && mE M N sc b z
  | .tup es, .Tuple xs _ _ => mEs M N sc es xs
  | .lst es, .List xs _ => mEs M N sc es xs
  | .idx a b, .Subscript x y _ => mE M N sc a x && mE M N sc b y
  | .slc a lo hi, .Subscript x (.Slice l u none _) _ => mE M N sc a x && mO M N sc lo l && mO M N sc hi u
  | .call f es, .Call (.Name x _) xs [] _ => (M.gf f && (M.G.fn f).isSome) && (decide (M.nm f = x) && (glB sc x && mEs M N sc es xs))
  | .isi f a, .Call (.Name x _) [y, .Name t _] [] _ => (isTyB f && glB sc x) && ((decide (bfNm f = x) && decide (t = Str.ofString (tyOf f))) && (glB sc t && mE M N sc a y))
  | .bf f (.cons e r), .Call (.Name x _) xs [] _ => (!isTyB f && glB sc x) && (decide (bfNm f = x) && mEs M N sc (.cons e r) xs)
  | .attr a f, .Attribute x y _ => (decide (M.nm f = y) && baseB x) && mE M N sc a x
  | .mk c es, .Call (.Name x _) xs [] _ => mkB M c && (decide (M.nm c = x) && (glB sc x && mEs M N sc es xs))
  | .mkK c es e, .Call (.Name x _) xs [⟨some kn, y, _⟩] _ => (((M.G.cls c).isSome && kwB M c kn) && (decide (M.nm c = x) && !xs.isEmpty)) && (glB sc x && (mEs M N sc es xs && mE M N sc e y))
  | .mk0 c, .Call (.Name x _) [] [] _ => mk0B M c && (decide (M.nm c = x) && glB sc x)
  | .lrg1 a, .Call (.Name x _) [.Call (.Name y _) [z] [] _] [] _ => (decide (x = ("list" : Str)) && glB sc x) && ((decide (y = ("range" : Str)) && glB sc y) && mE M N sc a z)
  | .dicl ks vs, .Dict keys xs _ => (keys.all (·.isSome) && (decide (keys.length = xs.length) && (!keys.isEmpty && decide (keys.length ≤ 15)))) && mPs M N sc ks vs keys xs
  | .slr a, .Subscript x (.Slice none none (some (.UnaryOp .USub (.Constant (.int j) _ _) _)) _) _ => decide (j = 1) && mE M N sc a x
  | .dic0, .Dict [] [] _ => true
  | .dget o a b, .Call (.Attribute y x p) [z, w] [] q => (decide (x = ("get" : Str)) && (p.endLine == q.line)) && (baseB y && (mE M N sc o y && (mE M N sc a z && mE M N sc b w)))
  | .meth o m es, .Call (.Attribute y x p) xs [] q => (decide (M.nm m = x) && ((p.endLine == q.line) && decide (xs.length < 30))) && (baseB y && (mE M N sc o y && mEs M N sc es xs))
  | .ini c es, .Call (.Attribute (.Name x _) y p) xs [] q => ((iniB M c && decide (M.nm c = x)) && (glB sc x && decide (y = ("__init__" : Str)))) && (((p.endLine == q.line) && (decide (xs.length < 30) && !xs.isEmpty)) && mEs M N sc es xs)
  | .bm f o es, .Call (.Attribute y x p) xs [] q => (bmB f xs.length && (decide (bmNm f = x) && (p.endLine == q.line))) && (baseB y && (mE M N sc o y && mEs M N sc es xs))
  | .lc elt t it cond, .ListComp x [⟨tg, iter, ifs, ia⟩] scope _ => ((ia == 0) && (tnB t && blkB N sc scope (ownOf N t))) && (mI M N sc tg it iter && (mT M false N (relB scope sc) t tg && (mOC M N (relB scope sc) cond ifs && mE M N (relB scope sc) elt x)))
  | _, _ => false
def mEs (M : Me) (N : List Str) (sc : Sco) : Es → List Expr → Bool
  | .nil, [] => true
  | .cons e es, x :: xs => mE M N sc e x && mEs M N sc es xs
  | _, _ => false
def mPs (M : Me) (N : List Str) (sc : Sco) : List Str → Es → List (Option Expr) → List Expr → Bool
  | [], .nil, [], [] => true
  | k :: ks, .cons e es, some (.Constant (.str t) _ _) :: kx, x :: xs => (decide (k = t) && mE M N sc e x) && mPs M N sc ks es kx xs
  | _, _, _, _ => false
def mO (M : Me) (N : List Str) (sc : Sco) : OE → Option Expr → Bool
  | .no, none => true
  | .so e, some x => mE M N sc e x
  | _, _ => false
def mC (M : Me) (N : List Str) (sc : Sco) : C → Expr → Bool
  | .v e, x => mE M N sc e x && plainT x
  | .cmp o a b, .Compare x [p] [y] _ => decide (copOf o = p) && !behindInMarks p y && mE M N sc a x && mE M N sc b y
  | .chain o o' a b c, .Compare x [p, p'] [y, z] _ => decide (copOf o = p) && decide (copOf o' = p') && !lastMarks [p, p'] [y, z] && mE M N sc a x && mE M N sc b y && mE M N sc c z
  | .nt a, .UnaryOp .Not x _ => mC M N sc a x
  | .and a b, .BoolOp .And (x :: y :: r) p => mC M N sc a x && (match r with
    | [] => mC M N sc b y
    | _ => mC M N sc b (.BoolOp .And (y :: r) p))
  | .or a b, .BoolOp .Or (x :: y :: r) p => mC M N sc a x && (match r with
    | [] => mC M N sc b y
    | _ => mC M N sc b (.BoolOp .Or (y :: r) p))
  | _, _ => false
def mOC (M : Me) (N : List Str) (sc : Sco) : OC → List Expr → Bool
  | .no, [] => true
  | .so c, [x] => mC M N sc c x
  | _, _ => false
def mI (M : Me) (N : List Str) (sc : Sco) (tg : Expr) : I → Expr → Bool
  | .rng1 a, .Call (.Name x _) [y] [] _ => (decide (x = ("range" : Str)) && glB sc x) && mE M N sc a y
  | .rng2 a b, .Call (.Name x _) [y, z] [] _ => (decide (x = ("range" : Str)) && glB sc x) && (mE M N sc a y && mE M N sc b z)
  | .enu a, .Call (.Name x _) [y] [] _ => (decide (x = ("enumerate" : Str)) && glB sc x) && (mE M N sc a y && (match tg with
    | .Tuple .. => true
    | _ => false))
  | .zip2 a b, .Call (.Name x _) [y, z] [] _ => (decide (x = ("zip" : Str)) && glB sc x) && ((mE M N sc a y && mE M N sc b z) && (match tg with
    | .Tuple .. => true
    | _ => false))
  | .rev a, .Call (.Name x _) [y] [] _ => (decide (x = ("reversed" : Str)) && glB sc x) && mE M N sc a y
  | .seq a, x => mE M N sc a x && notSet x
  | _, _ => false
def mT (M : Me) (dc : Bool) (N : List Str) (sc : Sco) : T → Expr → Bool
  | .nm i, .Name x _ => decide (N[i]? = some x) && locB dc sc x
  | .tup ts, .Tuple xs _ _ => mTs M dc N sc ts xs
  | _, _ => false
def mTs (M : Me) (dc : Bool) (N : List Str) (sc : Sco) : Ts → List Expr → Bool
  | .nil, [] => true
  | .cons t ts, x :: xs => mT M dc N sc t x && mTs M dc N sc ts xs
  | _, _ => false
end

/-! ### the context -/
def LE (M : Mo) (E : XK) (m : List Addr) (H : Hp) : KX := fun x h' => ∀ (m' : List Addr) (H' : Hp) (cls : Value) (d : Option Addr), Ex m m' → Kp M.K H H' → RH M H' m' h' → RX M H' m' x cls d → E cls d H'
/-- a def's promise, by our reading of its call -/
def spF (M : Mo) (k : Nat) (f : Nat) (np : Nat) : Sp := fun vs H Q E => ∃ m h args, RH M H m h ∧ RVs M.K H m args vs ∧ args.length = np ∧ callS M.G k (.fn f) args h (LQ M m H Q) (LE M E m H)
structure Glo (M : Mo) (mg : Str → Option Value) : Prop where
  free : ∀ x ∈ bltNames, mg x = none
  con : ∀ g v, M.G.con g = some v → ∃ u w, mg (M.nm g) = some u ∧ RelV w u ∧ ∀ H m, RV M.K H m v w
/-- the arguments that lack -/
def Dfl (M : Mo) (fd : FuncData) (ps : List Str) (d : FD) : Prop := ∀ n, n ≤ d.np → (fill d.dfl (List.replicate n PV.non) d.np).length = d.np →
  ∃ dvs ds, Vals dvs ds ∧ Binds M.K fd ps ds ∧ ∀ H m, RVs M.K H m (d.dfl.drop (d.dfl.length - (d.np - n))) dvs
/-- the last argument handed in by its keyword -/
def Kwd (M : Mo) (fd : FuncData) (ps : List Str) (d : FD) : Prop := ∀ x, d.kw = some x → ∀ n, n + 1 ≤ d.np → d.np - 1 - n ≤ d.dfl.length - 1 →
  ∃ (g : List Value → List Value → List Value) (gV : List V → List V → List V) (mid : List V), KBn M.K fd ps n [M.nm x] g gV ∧ (∀ vs z, vs.length = n → gV vs [z] = vs ++ mid ++ [z]) ∧ ∀ H m, RVs M.K H m (d.dfl.dropLast.drop (d.dfl.length - 1 - (d.np - 1 - n))) mid
/-- a def at a level -/
structure FnC (M : Mo) (P : Program) (w : World) (mg : Str → Option Value) (base : Heap) (k : Nat) (f : Nat) (d : FD) (a : Addr) : Prop where
  ex : ∃ fd ps, FnG P w M.K mg base (L2.CX P w) k a fd ps (spF M k f d.np) ∧ (PySem.W.keepIn M.K (.ref a) = true ∧ Kwd M fd ps d) ∧ Dfl M fd ps d
/-- C.__init__ read off the class is the very def -/
structure InD (K : PySem.W.Frag) (C f : Addr) : Prop where
  rd : PySem.W.readsIn K C (.type "type") = true
  ga : PySem.W.specialIn K (.ref C) "__getattribute__" = some (some (.builtin "type.__getattribute__"))
  at_ : PySem.W.findCls K (.ref C) (.type "type") "__init__" = some (.val (.ref f))
/-- a class without __init__ -/
structure Bare (K : PySem.W.Frag) (C : Addr) : Prop where
  makes : PySem.W.makesIn K C = true
  init : PySem.W.findIn K (.ref C) "__init__" = some (some (.builtin "object.__init__"))
  top : PySem.W.mroIn K C (.type "object") = some true
  kp : PySem.W.keepIn K (.ref C) = true
/-- a class of the text -/
structure ClsOk (M : Mo) (mg : Str → Option Value) (c : Nat) (cd : CD) : Prop where
  cls : Cls M.K (M.ca c)
  noat : ∀ f ∈ cd.fields, NoAttr M.K (M.ca c) (M.nm f)
  inj : ∀ f ∈ cd.fields, ∀ g ∈ cd.fields, M.nm f = M.nm g → f = g
  meth : ∀ m f, getM m cd.meths = some f → Meth M.K (M.ca c) (M.nm m) (M.fa f) ∧ M.nm m ∉ cd.fields.map M.nm ∧ (M.G.fn f).isSome = true
  mak : cd.bare = false → Mk M.K (M.ca c) (M.fa cd.init)
  ini : cd.bare = false → (M.G.fn cd.init).isSome = true
  bar : cd.bare = true → Bare M.K (M.ca c)
  glob : mg (M.nm c) = some (.ref (M.ca c))
  inid : cd.base = true → InD M.K (M.ca c) (M.fa cd.init)
structure Good (M : Mo) (X : Cx) (N : List Str) (sc : Sco) (W : WX) (k : Nat) : Prop where
  hN : X.N = N
  nd : N.Nodup
  hK : X.K = M.K
  sc : X.env.scope.names = sc
  calm : X.calm = true
  tk : Takes X W
  room : Room k X.A
  gd : X.A.guards = some []
  kd : X.env.scope.kind = .function
  glo : Glo M X.mg
  fns : ∀ j, j ≤ k → ∀ f d, M.G.fn f = some d → FnC M X.prog X.w X.mg X.base j f d (M.fa f)
  cls : ∀ c cd, M.G.cls c = some cd → ClsOk M X.mg c cd
  fng : ∀ f, M.gf f = true → X.mg (M.nm f) = some (.ref (M.fa f))

/-! ### readings -/
abbrev De := KX → Loc → PH → KQ → Prop
def tE (M : Mo) (W : WX) (d : De) : TE := fun σ H Q => ∃ m l h, RH M H m h ∧ RL M.K H m l σ ∧ d (LX M W σ m H) l h (LQ M m H Q)
abbrev DA := KX → Loc → PH → (List PV → PH → Prop) → Prop
def tA (M : Mo) (W : WX) (d : DA) : TA := fun σ H Q => ∃ m l h, RH M H m h ∧ RL M.K H m l σ ∧ d (LX M W σ m H) l h (LA M m H Q)
abbrev DT := KX → Loc → PH → (Bool → PH → Prop) → Prop
def tT (M : Mo) (W : WX) (d : DT) : TT := fun σ H Q => ∃ m l h, RH M H m h ∧ RL M.K H m l σ ∧ d (LX M W σ m H) l h (LB M m H Q)
abbrev DO := KX → Loc → PH → (Option Int → PH → Prop) → Prop
def tOp (M : Mo) (W : WX) (d : DO) : TO := fun σ H Q => ∃ m l h, RH M H m h ∧ RL M.K H m l σ ∧ d (LX M W σ m H) l h (LB M m H Q)
theorem _root_.L2.PE.wk {X : Cx} {e : Expr} {t t' : TE} (p : PE X e t) (h : ∀ σ H Q, t' σ H Q → t σ H Q) : PE X e t' := ⟨fun pins s σ H Q I q => p.run pins s σ H Q I (h _ _ _ q)⟩
theorem _root_.L2.PT.wk {X : Cx} {e : Expr} {t t' : TT} (p : PT X e t) (h : ∀ σ H Q, t' σ H Q → t σ H Q) : PT X e t' := ⟨fun pins s σ H Q I q => p.run pins s σ H Q I (h _ _ _ q)⟩
theorem _root_.L2.PW.wk {X : Cx} {e : Expr} {t t' : TT} (p : PW X e t) (h : ∀ σ H Q, t' σ H Q → t σ H Q) : PW X e t' := ⟨fun wh pins s σ H Q I q => p.run wh pins s σ H Q I (h _ _ _ q)⟩
theorem _root_.L2.PA.wk {X : Cx} {e : List Expr} {t t' : TA} (p : PA X e t) (h : ∀ σ H Q, t' σ H Q → t σ H Q) : PA X e t' := ⟨fun pos pins s σ H Q I q => p.run pos pins s σ H Q I (h _ _ _ q)⟩
theorem _root_.L2.PO.wk {X : Cx} {e : Option Expr} {t t' : TO} (p : L2.PO X e t) (h : ∀ σ H Q, t' σ H Q → t σ H Q) : L2.PO X e t' := ⟨fun pins s σ H Q I q => p.run pins s σ H Q I (h _ _ _ q)⟩
section
variable {M : Mo} {W : WX} {σ : L2.St} {m : List Addr} {H : Hp} {l : Loc} {h : PH} {k : Nat}
theorem csle (M : Mo) (k : Nat) : CSle (callS M.G k) (callS M.G k) := callS_le k k (Nat.le_refl k)
theorem tE_in {e : E} {X0 : KX} {K0 : KQ} {Q' : VK} (rh : RH M H m h) (rl : RL M.K H m l σ) (hX : ∀ x h, X0 x h → LX M W σ m H x h) (q : evE M.G (callS M.G k) X0 e l h K0)
    (c : ∀ (m1 : List Addr) (H1 : Hp) (v : PV) (w : V) (h1 : PH), Ex m m1 → Kp M.K H H1 → RH M H1 m1 h1 → RL M.K H1 m1 l σ → RV M.K H1 m1 v w → K0 v h1 → Q' w H1) : tE M W (fun X => evE M.G (callS M.G k) X e) σ H Q' :=
  ⟨m, l, h, rh, rl, evE_mono (csle M k) hX e l h _ _ (fun v h1 q1 m1 H1 w e1 k1 rh1 rv1 => c m1 H1 v w h1 e1 k1 rh1 (rl.mono k1 e1) rv1 q1) q⟩
theorem tA_in {e : Es} {X0 : KX} {K0 : List PV → PH → Prop} {Q' : List V → Hp → Prop} (rh : RH M H m h) (rl : RL M.K H m l σ) (hX : ∀ x h, X0 x h → LX M W σ m H x h) (q : evEs M.G (callS M.G k) X0 e l h K0)
    (c : ∀ (m1 : List Addr) (H1 : Hp) (v : List PV) (w : List V) (h1 : PH), Ex m m1 → Kp M.K H H1 → RH M H1 m1 h1 → RL M.K H1 m1 l σ → RVs M.K H1 m1 v w → K0 v h1 → Q' w H1) : tA M W (fun X => evEs M.G (callS M.G k) X e) σ H Q' :=
  ⟨m, l, h, rh, rl, evEs_mono (csle M k) hX e l h _ _ (fun v h1 q1 m1 H1 w e1 k1 rh1 rv1 => c m1 H1 v w h1 e1 k1 rh1 (rl.mono k1 e1) rv1 q1) q⟩
theorem tT_in {e : C} {X0 : KX} {K0 : Bool → PH → Prop} {Q' : Bool → Hp → Prop} (rh : RH M H m h) (rl : RL M.K H m l σ) (hX : ∀ x h, X0 x h → LX M W σ m H x h) (q : evT M.G (callS M.G k) X0 e l h K0)
    (c : ∀ (m1 : List Addr) (H1 : Hp) (b : Bool) (h1 : PH), Ex m m1 → Kp M.K H H1 → RH M H1 m1 h1 → RL M.K H1 m1 l σ → K0 b h1 → Q' b H1) : tT M W (fun X => evT M.G (callS M.G k) X e) σ H Q' :=
  ⟨m, l, h, rh, rl, evT_mono (csle M k) hX e l h _ _ (fun v h1 q1 m1 H1 e1 k1 rh1 => c m1 H1 v h1 e1 k1 rh1 (rl.mono k1 e1) q1) q⟩
theorem tO_in {e : OE} {X0 : KX} {K0 : Option Int → PH → Prop} {Q' : Option Int → Hp → Prop} (rh : RH M H m h) (rl : RL M.K H m l σ) (hX : ∀ x h, X0 x h → LX M W σ m H x h) (q : evO M.G (callS M.G k) X0 e l h K0)
    (c : ∀ (m1 : List Addr) (H1 : Hp) (b : Option Int) (h1 : PH), Ex m m1 → Kp M.K H H1 → RH M H1 m1 h1 → RL M.K H1 m1 l σ → K0 b h1 → Q' b H1) : tOp M W (fun X => evO M.G (callS M.G k) X e) σ H Q' :=
  ⟨m, l, h, rh, rl, evO_mono (csle M k) hX e l h _ _ (fun v h1 q1 m1 H1 e1 k1 rh1 => c m1 H1 v h1 e1 k1 rh1 (rl.mono k1 e1) q1) q⟩
end
/-- no star -/
theorem star_of {M : Mo} {N : List Str} {sc : Sco} {e : E} {x : Expr} (h : mE M.toMe N sc e x = true) (env : Env) (r : List Expr) : starEach (x :: r) env = (false, eval x env) :: starEach r env := by
  cases x <;> first | rfl | (cases e <;> first | exact absurd h Bool.false_ne_true | (rename_i args _ _; cases args <;> exact absurd h Bool.false_ne_true) | (rename_i args _ _ _ _; cases args <;> exact absurd h Bool.false_ne_true) | simp [mE] at h)
theorem plainIx_of {M : Mo} {N : List Str} {sc : Sco} {e : E} {x : Expr} (h : mE M.toMe N sc e x = true) : PlainIx x := by
  cases x <;> first | (intro o i; rfl) | (cases e <;> first | exact absurd h Bool.false_ne_true | simp [mE] at h)
theorem star_plain {M : Mo} {N : List Str} {sc : Sco} (env : Env) (pos : Pos) : ∀ {es : Es} {xs : List Expr}, mEs M.toMe N sc es xs = true → (backTo pos (starEach xs env)).any (·.1) = false
  | .nil, [], _ => rfl
  | .nil, _ :: _, h => absurd h Bool.false_ne_true
  | .cons _ _, [], h => absurd h Bool.false_ne_true
  | .cons e es, x :: xs, h => by
    obtain ⟨h1, h2⟩ := Bool.and_eq_true_iff.mp (show (mE M.toMe N sc e x && mEs M.toMe N sc es xs) = true from h)
    rw [star_of h1]
    show (false || (backTo pos (starEach xs env)).any (·.1)) = false
    rw [Bool.false_or]
    exact star_plain env pos h2

theorem star_plain2 {M : Mo} {N : List Str} {sc : Sco} (env : Env) (pos : Pos) {es : Es} {x : Expr} {xs : List Expr} (h : mEs M.toMe N sc es (x :: xs) = true) : starEach (x :: xs) env = (false, eval x env) :: starEach xs env ∧ (backTo pos (starEach xs env)).any (·.1) = false := by
  cases es with
  | nil => exact absurd h Bool.false_ne_true
  | cons e es =>
    obtain ⟨h1, h2⟩ := Bool.and_eq_true_iff.mp (show (mE M.toMe N sc e x && mEs M.toMe N sc es xs) = true from h)
    exact ⟨star_of h1 env xs, star_plain env pos h2⟩
/-- f(..) with what lacks -/
theorem pe_callG {M : Mo} {X : Cx} {N : List Str} {sc : Sco} {W : WX} {k f : Nat} {d : FD} {x : Str} {p pos : Pos} {es : Es} {xs : List Expr} {t : TA} (g : Good M X N sc W k) (hf : M.G.fn f = some d) (hx : x = M.nm f) (hgf : M.gf f = true) (hg : Gl X x) (hdb : (x == ("__debug__" : Str)) = false)
    (hm : mEs M.toMe N sc es xs = true) (ha : PA X xs t) (h0 : xs = [] → ∀ σ H Q, t σ H Q → Q [] H) :
    PE X (.Call (.Name x p) xs [] pos) (fun σ H Q => t σ H fun vs H1 => vs.length ≤ d.np ∧ (fill d.dfl (List.replicate vs.length PV.non) d.np).length = d.np ∧
      ∀ dvs, (∀ H m, RVs M.K H m (d.dfl.drop (d.dfl.length - (d.np - vs.length))) dvs) → spF M k f d.np (vs ++ dvs) H1 Q (WE W σ)) := by
  obtain ⟨fd, ps, F, kp, D⟩ := (g.fns k (Nat.le_refl k) f d hf).ex
  have hmg : X.mg x = some (.ref (M.fa f)) := by rw [hx]; exact g.fng f hgf
  have F' : FnG X.prog X.w X.K X.mg X.base (L2.CX X.prog X.w) k (M.fa f) fd ps (spF M k f d.np) := by rw [g.hK]; exact F
  have kp' : PySem.W.keepIn X.K (.ref (M.fa f)) = true := by rw [g.hK]; exact kp.1
  refine ⟨fun pins s σ H Q I h => ?_⟩
  refine wpAny_Call_Name_kw (ld_glob I hg hmg ?_ hdb)
  cases xs with
  | nil =>
    have fin : ∀ (vs : List V) (us : List Value) (H1 : Hp) (s1 : Shared), L2.Inv X pins σ H1 s1 → Vals vs us → (vs.length ≤ d.np ∧ (fill d.dfl (List.replicate vs.length PV.non) d.np).length = d.np ∧
      ∀ dvs, (∀ H m, RVs M.K H m (d.dfl.drop (d.dfl.length - (d.np - vs.length))) dvs) → spF M k f d.np (vs ++ dvs) H1 Q (WE W σ)) → wpAny (model X.prog X.w) X.A (call (.ref (M.fa f)) us) (EP X pins σ Q) X.xe s1 := by
      intro vs us H1 s1 I1 r ⟨q1, q2, q⟩
      obtain ⟨dvs, ds, hd, hb, hr⟩ := D vs.length q1 q2
      exact run_fnG F' g.gd g.room (by rw [g.hK]; exact hb) hd (passAt g.tk σ) I1 r (q dvs hr)
    exact PySem.W.callWith_K0 I.kIn kp' (fin [] [] H s I .nil (h0 rfl _ _ _ h))
  | cons y ys =>
    obtain ⟨h1, h2⟩ := star_plain2 X.env pos hm
    refine PySem.W.callWith_K (h₀ := X.base) I.ok.mod.kin kp' (thn (ha.run pos pins s σ H _ I h) fun us s1 ⟨vs, H1, I1, r, q⟩ => ⟨I1.kIn, ?_⟩) h1 h2
    obtain ⟨q1, q2, q⟩ := q
    obtain ⟨dvs, ds, hd, hb, hr⟩ := D vs.length q1 q2
    exact run_fnG F' g.gd g.room (by rw [g.hK]; exact hb) hd (passAt g.tk σ) I1 r (q dvs hr)

theorem gl_of {M : Mo} {X : Cx} {N : List Str} {sc : Sco} {W : WX} {k : Nat} (g : Good M X N sc W k) {x : Str} (h : glB sc x = true) : Gl X x ∧ (x == ("__debug__" : Str)) = false := by
  obtain ⟨h1, h2⟩ := Bool.and_eq_true_iff.mp h
  refine ⟨?_, by simpa using h2⟩
  show X.env.scope.names.lookup x = some .globalImplicit
  rw [g.sc]
  split at h1
  · assumption
  · cases h1
theorem vis_of {M : Mo} {X : Cx} {N : List Str} {sc : Sco} {W : WX} {k : Nat} (g : Good M X N sc W k) {x : Str} (h : visB sc x = true) : Vis X.env.scope x := by
  unfold visB at h
  unfold Vis
  rw [g.sc]
  split at h
  · rename_i e; exact .inl e
  · rename_i e; exact .inr (.inl e)
  · rename_i e; exact .inr (.inr e)
  · cases h
theorem isTrue_of {M : Mo} {N : List Str} {sc : Sco} {e : E} {x : Expr} {env : Env} (h : mC M.toMe N sc (.v e) x = true) : ∀ whole, isTrue x env whole = (do let v ← whole; standAt x.pos; holding [v] (truthy v)) := by
  obtain ⟨h1, h2⟩ := Bool.and_eq_true_iff.mp (show (mE M.toMe N sc e x && plainT x) = true from h)
  cases x with
  | UnaryOp op a p => cases op <;> first | (intro _; rfl) | exact absurd h2 Bool.false_ne_true
  | _ => first | (intro _; rfl) | exact absurd h2 Bool.false_ne_true
theorem nb {a : Bool} (h : (!a) = true) : a = false := by simpa using h
section
variable {M : Mo}
theorem truV_of {H : Hp} {m : List Addr} {h : PH} {v : PV} {w : V} {b : Bool} (r : RH M H m h) (rv : RV M.K H m v w) (e : truV h v = some b) : TruV M.K w H b := by
  cases v with
  | non => cases (show w = .non from rv); cases e; rfl
  | bl c => cases (show w = .bl c from rv); cases e; rfl
  | int i => cases (show w = .int i from rv); cases e; rfl
  | str s =>
    cases (show w = .str s from rv)
    unfold truV at e
    dsimp only at e
    split at e
    · rename_i hl; cases e; exact ⟨hl, rfl⟩
    · cases e
  | tup xs =>
    obtain ⟨p, vs, rfl, e1, e2⟩ := rv
    cases e
    refine .inr (.inl ⟨vs, e1, ?_⟩)
    have := e2.len
    cases xs <;> cases vs <;> simp_all
  | ref a =>
    obtain ⟨p, e1, rfl⟩ := rv
    unfold truV at e
    dsimp only at e
    have emp : ∀ {xs : List PV} {vs : List V}, RVs M.K H m xs vs → (!xs.isEmpty) = !vs.isEmpty := fun {xs vs} z => by
      have := z.len
      cases xs <;> cases vs <;> simp_all
    split at e
    · rename_i xs e2
      cases e
      obtain ⟨vs, e3, e4⟩ := r.obj _ _ _ e2 e1
      exact .inl ⟨vs, .inl (.inl e3), emp e4⟩
    · rename_i xs e2
      cases e
      obtain ⟨vs, e3, e4⟩ := r.obj _ _ _ e2 e1
      refine .inl ⟨vs, ?_, emp e4⟩
      rcases e3 with ⟨o, e3⟩ | e3
      · exact .inl (.inr ⟨o, e3⟩)
      · exact .inr e3
    · rename_i xs e2
      cases e
      obtain ⟨vs, e3, e4⟩ := r.obj _ _ _ e2 e1
      refine .inr (.inr ⟨vs, e3, ?_⟩)
      cases xs with
      | nil => cases (show vs = [] from e4); rfl
      | cons z zs => obtain ⟨x, y⟩ := z; obtain ⟨a, b, c, rfl, _⟩ := e4; rfl
    · cases e
end

section
variable {M : Mo} {k : Nat}
theorem bf_in (f : BF) (n : isTyB f = false) : bfNm f ∈ bltNames := by cases f <;> first | (unfold bltNames bfNm; simp; done) | (exact absurd n (by decide))
/-- the built-in function by its name -/
theorem sBf {X : Cx} {N : List Str} {sc : Sco} {W : WX} (g : Good M X N sc W k) (f : BF) (n : isTyB f = false) {x : Str} (hx : bfNm f = x) (hg : glB sc x = true) {e : E} {es : Es} {y : Expr} {ys : List Expr} {p pos : Pos} {t : TA}
    (hm : mEs M.toMe N sc (.cons e es) (y :: ys) = true) (ha : PA X (y :: ys) t) : PE X (.Call (.Name x p) (y :: ys) [] pos) (tCB (rF M f) t) := by
  obtain ⟨h1, h2⟩ := star_plain2 X.env pos hm
  obtain ⟨g1, g2⟩ := gl_of g hg
  have fr : X.mg x = none := by rw [← hx]; exact g.glo.free _ (bf_in f n)
  have hnn : x ≠ "__name__" := by rw [← hx]; cases f <;> decide +kernel
  have never : ∀ (v : Value), (∀ ws H Q, ¬ rF M f ws H Q) → CallR X v (rF M f) := fun v hn pins s σ H xs us Q I r q => (hn _ _ _ q).elim
  have no : (∀ vs h Q, ¬ bfV f vs h Q) → ∀ ws H Q, ¬ rF M f ws H Q := fun hn ws H Q ⟨m, h, vs, _, _, q⟩ => hn _ _ _ q
  subst hx
  cases f with
  | len => exact pe_callB (sLen g.hK) g1 fr PySem.boot_len ha hnn g2 h1 h2
  | list1 => exact pe_callTy (sList1 g.hK) g1 fr (by decide +kernel) ha hnn g2 h1 h2
  | tuple1 => exact pe_callTy (sTuple1 g.hK) g1 fr (by decide +kernel) ha hnn g2 h1 h2
  | min2 => exact pe_callB (sMin2 g.calm) g1 fr (by decide +kernel) ha hnn g2 h1 h2
  | max2 => exact pe_callB (sMax2 g.calm) g1 fr (by decide +kernel) ha hnn g2 h1 h2
  | abs => exact pe_callB sAbs g1 fr (by decide +kernel) ha hnn g2 h1 h2
  | isInt => exact absurd n (by decide)
  | isBool => exact absurd n (by decide)
  | isStr => exact absurd n (by decide)
  | isList => exact absurd n (by decide)
  | isTuple => exact absurd n (by decide)
  | tuple0 => exact pe_callTy (T := "tuple") (never _ (no fun vs h Q q => by cases q)) g1 fr (by decide +kernel) ha hnn g2 h1 h2
  | int1 => exact pe_callTy (T := "int") sInt1 g1 fr (by decide +kernel) ha hnn g2 h1 h2
  | str1 => exact pe_callTy (T := "str") sStr1 g1 fr (by decide +kernel) ha hnn g2 h1 h2
  | dict1 => exact pe_callTy (T := "dict") (sDict1 g.hK g.calm) g1 fr (by decide +kernel) ha hnn g2 h1 h2
  | dict0 => exact pe_callTy (T := "dict") (never _ (no fun vs h Q q => by cases q)) g1 fr (by decide +kernel) ha hnn g2 h1 h2
  | minL => exact pe_callB (id := "min") (sMinL g.hK g.calm) g1 fr (by decide +kernel) ha hnn g2 h1 h2
  | maxL => exact pe_callB (id := "max") (sMaxL g.hK g.calm) g1 fr (by decide +kernel) ha hnn g2 h1 h2
  | sumL => exact pe_callB (id := "sum") (sSumL g.hK g.calm) g1 fr (by decide +kernel) ha hnn g2 h1 h2
  | repr1 => exact pe_callB (id := "repr") (sRepr1 g.hK g.gd (by have := g.room.un; omega)) g1 fr (by decide +kernel) ha hnn g2 h1 h2
  | sorted1 => exact pe_callB (id := "sorted") (never _ (no fun vs h Q q => by cases q)) g1 fr (by decide +kernel) ha hnn g2 h1 h2
  | all1 => exact pe_callB (id := "all") (sAll1 g.hK g.calm) g1 fr (by decide +kernel) ha hnn g2 h1 h2
theorem call_sp {f : Nat} {d : FD} {m : List Addr} {H : Hp} {h : PH} {args : List PV} {vs : List V} {Q : VK} {E : XK} (hf : M.G.fn f = some d) (rh : RH M H m h) (rv : RVs M.K H m args vs) (q : callS M.G k (.fn f) args h (LQ M m H Q) (LE M E m H)) :
    vs.length ≤ d.np ∧ (fill d.dfl (List.replicate vs.length PV.non) d.np).length = d.np ∧ ∀ dvs, (∀ H m, RVs M.K H m (d.dfl.drop (d.dfl.length - (d.np - vs.length))) dvs) → spF M k f d.np (vs ++ dvs) H Q E := by
  cases k with
  | zero => exact (show False from q).elim
  | succ k =>
    obtain ⟨d', hf', l1, l2, q⟩ := q
    rw [hf] at hf'; cases hf'
    have el := rv.len
    refine ⟨by rw [← el]; exact l2, by rw [← el]; unfold fill at l1 ⊢; simpa using l1, fun dvs hd => ⟨m, h, fill d.dfl args d.np, rh, ?_, l1, ?_⟩⟩
    · unfold fill
      refine rv.app ?_
      rw [el]
      exact hd H m
    · have e0 : fill d.dfl (fill d.dfl args d.np) d.np = fill d.dfl args d.np := by
        have z : d.np - (fill d.dfl args d.np).length = 0 := by omega
        show fill d.dfl args d.np ++ d.dfl.drop (d.dfl.length - (d.np - (fill d.dfl args d.np).length)) = _
        rw [z]; simp
      exact ⟨d, hf, by rw [e0]; exact l1, Nat.le_of_eq l1, by rw [e0]; exact q⟩
/-- isinstance(x, T) -/
theorem sIsT {X : Cx} {N : List Str} {sc : Sco} {W : WX} (g : Good M X N sc W k) {f : BF} (n : isTyB f = true) {x t : Str} (hx : bfNm f = x) (ht : t = Str.ofString (tyOf f)) (hg : glB sc x = true) (hgt : glB sc t = true) {a : E} {y : Expr} {p pos tp : Pos} (hm : mE M.toMe N sc a y = true)
    (ha : PE X y (tE M W fun Y => evE M.G (callS M.G k) Y a)) : PE X (.Call (.Name x p) [y, .Name t tp] [] pos) (tE M W fun Y => evE M.G (callS M.G k) Y (.isi f a)) := by
  obtain ⟨g1, g2⟩ := gl_of g hg
  obtain ⟨t1, t2⟩ := gl_of g hgt
  have hT : tyOf f = "int" ∨ tyOf f = "bool" ∨ tyOf f = "str" ∨ tyOf f = "list" ∨ tyOf f = "tuple" := by cases f <;> first | exact absurd n (by decide) | (unfold tyOf; simp)
  have fx : x = "isinstance" := by rw [← hx]; cases f <;> first | exact absurd n (by decide) | rfl
  have ft : bootBuiltins t = some (.type (tyOf f)) := by rw [ht]; cases f <;> first | exact absurd n (by decide) | (unfold tyOf; decide +kernel)
  have fm : X.mg t = none := g.glo.free t (by rw [ht]; cases f <;> first | exact absurd n (by decide) | (unfold tyOf bltNames; simp))
  have htn : t ≠ "__name__" := by rw [ht]; cases f <;> first | exact absurd n (by decide) | (unfold tyOf; decide +kernel)
  subst fx
  have pt : PE X (.Name t tp) (tC (.ty (tyOf f))) := pe_bltn t1 fm ft rfl htn t2
  have fi : X.mg "isinstance" = none := g.glo.free _ (by unfold bltNames; simp)
  refine (pe_callB (sIsi (M := M) g.hK hT) g1 fi (by decide +kernel) (pa_cons ha (pa_cons pt pa_nil rfl) (star_of hm X.env _)) (by decide +kernel) g2 (star_of hm X.env _) rfl).wk fun σ H Q q => ?_
  obtain ⟨m, l, h, rh, rl, q⟩ := q
  refine tE_in rh rl (fun _ _ z => z) q fun m1 H1 v w h1 e1 k1 rh1 rl1 rv1 q1 => ?_
  obtain ⟨ty, e, q2⟩ := q1
  exact ⟨m1, h1, v, w, ty, rh1, rfl, rv1, e, (LQ.mono e1 k1 _ _ q2).at rh1 rfl⟩
theorem fill_len {dfl : List PV} {vs : List PV} {n : Nat} : (fill dfl vs n).length = (fill dfl (List.replicate vs.length PV.non) n).length := by
  unfold fill; simp
end
end Py

set_option Elab.async false
set_option linter.all false
set_option maxRecDepth 100000
set_option maxHeartbeats 4000000
/-! PyZip: zip of a tuple and a list, by the two iterators' own words. -/
namespace Py
open PySem PySem.Spec PyProof.Rows L2 RZ
section
variable {prog : Program} {w : World} {A : Around} {E : Value → Shared → Prop} {s : Shared} {zz T1 T2 j1 j2 u1 u2 : Addr} {n1 n2 : Nat} {xs ys : Array Value} {x y a b : Value}
/-- what zip holds ahead of a turn: a tuple's iterator, a list's -/
structure ZmAt (h : Heap) (zz T1 T2 j1 j2 u1 u2 : Addr) (n1 n2 : Nat) (f : Value) (a b : Value) : Prop where
  zp : IsZip h zz T1 T2 f
  p1 : IsPair h T1 (.ref j1) (.ref j2)
  p2 : IsPair h T2 a b
  t1 : h.IsTupleIter j1 u1 n1
  t2 : h.IsListIter j2 u2 n2
abbrev ZmKeep (h h' : Heap) (zz T2 j1 j2 : Addr) : Prop := ∀ c o, c ≠ zz → c ≠ T2 → c ≠ j1 → c ≠ j2 → h.get? c = some o → h'.get? c = some o
theorem zm_item {Q : Value → Shared → Prop} (D : ZipApart zz T1 T2 j1 j2 u1 u2) (Z : ZmAt s.heap zz T1 T2 j1 j2 u1 u2 n1 n2 .none a b) (hu : s.heap.IsTuple u1 xs) (hv : s.heap.IsList u2 ys) (ex : xs[n1]? = some x) (ey : ys[n2]? = some y)
    (hQ : ∀ h', ZmAt h' zz T1 T2 j1 j2 u1 u2 (n1 + 1) (n2 + 1) (rawInt s.heap.objs.size) x y → IsPair h' s.heap.objs.size x y → h'.objs.size = s.heap.objs.size + 1 → ZmKeep s.heap h' zz T2 j1 j2 → Q (.ref s.heap.objs.size) { s with heap := h' }) :
    wpAny (model prog w) A (Builtin.«zip.__next__» ⟨[.ref zz], []⟩) (fun fin s' => ∃ v, fin = .done (.ret v) ∧ Q v s') E s := by
  obtain ⟨zp, p1, p2, t1, t2⟩ := Z
  show wpAny _ _ (field (.ref zz) 2 >>= _) _ _ _; refine wpAny_bind (wpAny_field zp rfl (x := .bool false) rfl ?_)
  show wpAny _ _ (field (.ref zz) 3 >>= _) _ _ _; refine wpAny_bind (wpAny_field zp rfl (x := .ref T1) rfl (wpAny_bind (wpAny_seqItems p1 rfl ?_)))
  show wpAny _ _ (Builtin.SmallTypes.ownedTupleIsFree (.ref zz) >>= _) _ _ _; refine wpAny_bind ?_
  unfold Builtin.SmallTypes.ownedTupleIsFree; refine wpAny_bind (wpAny_field zp rfl (x := .none) rfl (wpAny_pure ?_)); simp only [if_true]
  refine wpAny_bind (wpAny_rule (wpAny_bind (wpAny_field zp rfl (x := .ref T2) rfl (wpAny_bind (wpAny_setField_rec zp (by simp) fun ha za sa => ?_)))))
  replace za : IsZip ha zz T1 T2 .ellipsis := za
  refine wpAny_bind ?_; simp only [List.zipIdx_cons, List.zipIdx_nil, List.forIn_cons, List.forIn_nil]
  refine wpAny_bind (wpAny_bind (wpAny_onRaise ?_)); show wpAny _ _ (Builtin.SmallTypes.nextOf (.ref j1) >>= _) _ _ _
  refine wpAny_bind (nextOf_tuple_item (t1.extBut sa.extBut D.i1z) (hu.extBut sa.extBut D.l1z) ex fun hb tb sb => wpAny_pure ?_)
  have pb : IsPair hb T2 a b := sb.extBut _ _ D.TOi1 (sa.extBut _ _ D.TOz p2)
  refine wpAny_bind (wpAny_seqItems pb rfl (wpAny_bind (wpAny_updateSeq_pair pb fun hc pc sc => ?_)))
  replace pc : IsPair hc T2 x b := pc
  refine wpAny_bind (wpAny_letGo (wpAny_pure (wpAny_bind (wpAny_bind (wpAny_onRaise ?_))))); show wpAny _ _ (Builtin.SmallTypes.nextOf (.ref j2) >>= _) _ _ _
  have t2c := ((t2.extBut sa.extBut D.i2z).extBut sb.extBut D.i12.symm).extBut sc.extBut D.TOi2.symm
  have hvc := ((hv.extBut sa.extBut D.l2z).extBut sb.extBut D.l2i1).extBut sc.extBut D.l2TO
  refine wpAny_bind (wpAny_nextOf_list_item t2c hvc ey fun hd td sd => wpAny_pure ?_)
  have pd : IsPair hd T2 x b := sd.extBut _ _ D.TOi2 pc
  refine wpAny_bind (wpAny_seqItems pd rfl (wpAny_bind (wpAny_updateSeq_pair pd fun he pe se => ?_)))
  replace pe : IsPair he T2 x y := pe
  refine wpAny_bind (wpAny_letGo (wpAny_pure (wpAny_pure (wpAny_bind (wpAny_seqItems pe rfl (wpAny_bind (wpAny_newTuple ?_)))))))
  have hn : he.objs.size = s.heap.objs.size := by rw [se.1, sd.1, sc.1, sb.1, sa.1]
  have ze : IsZip he zz T1 T2 .ellipsis := se.extBut _ _ D.TOz.symm (sd.extBut _ _ D.i2z.symm (sc.extBut _ _ D.TOz.symm (sb.extBut _ _ D.i1z.symm za)))
  have ke : ZmKeep s.heap he zz T2 j1 j2 := fun c o c1 c2 c3 c4 e => se.extBut _ _ c2 (sd.extBut _ _ c4 (sc.extBut _ _ c2 (sb.extBut _ _ c3 (sa.extBut _ _ c1 e))))
  have t1e : he.IsTupleIter j1 u1 (n1 + 1) := ((tb.extBut sc.extBut D.TOi1.symm).extBut sd.extBut D.i12).extBut se.extBut D.TOi1.symm
  have t2e : he.IsListIter j2 u2 (n2 + 1) := td.extBut se.extBut D.TOi2.symm
  have zl : zz < he.objs.size := Heap.lt_size ze
  show wpAny _ _ (Builtin.SmallTypes.ownedTupleHandOut (.ref zz) (.ref he.objs.size) >>= _) _ _ _; refine wpAny_bind ?_
  unfold Builtin.SmallTypes.ownedTupleHandOut
  have zf : IsZip (he.push { cls := .type "tuple", data := .seq #[x, y] }) zz T1 T2 .ellipsis := Heap.get?_push_of_some _ ze
  refine wpAny_bind (wpAny_setField_rec zf (by simp) fun hg zg sg => ?_)
  replace zg : IsZip hg zz T1 T2 (rawInt he.objs.size) := zg
  refine wpAny_setField_rec zg (by simp) fun hk zk sk => ?_
  replace zk : IsZip hk zz T1 T2 (rawInt he.objs.size) := zk
  have up : ∀ c o, c ≠ zz → he.get? c = some o → hk.get? c = some o := fun c o c1 e => sk.extBut _ _ c1 (sg.extBut _ _ c1 (Heap.get?_push_of_some _ e))
  have pk : IsPair hk he.objs.size x y := sk.extBut _ _ (Nat.ne_of_gt zl) (sg.extBut _ _ (Nat.ne_of_gt zl) (Heap.get?_push_size _ rfl))
  have nk : hk.objs.size = he.objs.size + 1 := by rw [sk.1, sg.1, Heap.size_push]
  rw [hn] at zk pk nk
  refine wpAny_pure ⟨_, rfl, ?_⟩
  show Q (.ref he.objs.size) _; rw [hn]
  exact hQ hk ⟨zk, up _ _ D.TIz (ke _ _ D.TIz D.TITO D.TIi1 D.TIi2 p1), up _ _ D.TOz pe, t1e.at fun o e => up _ o D.i1z e, t2e.at fun o e => up _ o D.i2z e⟩ pk nk fun c o c1 c2 c3 c4 e => up c o c1 (ke c o c1 c2 c3 c4 e)
theorem zm_end {Q : Fin → Shared → Prop} (hh : A.handled = none) (D : ZipApart zz T1 T2 j1 j2 u1 u2) (Z : ZmAt s.heap zz T1 T2 j1 j2 u1 u2 n1 n2 .none a b) (hu : s.heap.IsTuple u1 xs) (hv : s.heap.IsList u2 ys) (ee : xs[n1]? = none ∨ ys[n2]? = none)
    (hE : ∀ h' e, ZmKeep s.heap h' zz T2 j1 j2 → (∃ o, h'.get? e = some o ∧ o.cls = .type "StopIteration") → E (.ref e) { s with heap := h' }) :
    wpAny (model prog w) A (Builtin.«zip.__next__» ⟨[.ref zz], []⟩) Q E s := by
  obtain ⟨zp, p1, p2, t1, t2⟩ := Z
  show wpAny _ _ (field (.ref zz) 2 >>= _) _ _ _; refine wpAny_bind (wpAny_field zp rfl (x := .bool false) rfl ?_)
  show wpAny _ _ (field (.ref zz) 3 >>= _) _ _ _; refine wpAny_bind (wpAny_field zp rfl (x := .ref T1) rfl (wpAny_bind (wpAny_seqItems p1 rfl ?_)))
  show wpAny _ _ (Builtin.SmallTypes.ownedTupleIsFree (.ref zz) >>= _) _ _ _; refine wpAny_bind ?_
  unfold Builtin.SmallTypes.ownedTupleIsFree; refine wpAny_bind (wpAny_field zp rfl (x := .none) rfl (wpAny_pure ?_)); simp only [if_true]
  refine wpAny_bind (wpAny_rule (wpAny_bind (wpAny_field zp rfl (x := .ref T2) rfl (wpAny_bind (wpAny_setField_rec zp (by simp) fun ha za sa => ?_)))))
  replace za : IsZip ha zz T1 T2 .ellipsis := za
  refine wpAny_bind ?_; simp only [List.zipIdx_cons, List.zipIdx_nil, List.forIn_cons, List.forIn_nil]
  refine wpAny_bind (wpAny_bind (wpAny_onRaise ?_)); show wpAny _ _ (Builtin.SmallTypes.nextOf (.ref j1) >>= _) _ _ _
  cases ex : xs[n1]? with
  | none =>
    refine wpAny_bind (nextOf_tuple_end hh (t1.extBut sa.extBut D.i1z) (hu.extBut sa.extBut D.l1z) ex fun hb e sb st => ?_)
    obtain ⟨oe, q1, q2⟩ := st
    have zb : IsZip hb zz T1 T2 .ellipsis := sb _ _ D.i1z.symm za
    have ne : e ≠ zz := fun q => by subst q; rw [zb] at q1; cases q1; simp at q2
    exact wpAny_setField_rec zb (by simp) fun hc _ sc => hE hc e (fun c o c1 _ c3 _ q => sc.extBut _ _ c1 (sb _ _ c3 (sa.extBut _ _ c1 q))) ⟨oe, sc.extBut _ _ ne q1, q2⟩
  | some x =>
    have ey : ys[n2]? = none := ee.resolve_left (by rw [ex]; nofun)
    refine wpAny_bind (nextOf_tuple_item (t1.extBut sa.extBut D.i1z) (hu.extBut sa.extBut D.l1z) ex fun hb tb sb => wpAny_pure ?_)
    have pb : IsPair hb T2 a b := sb.extBut _ _ D.TOi1 (sa.extBut _ _ D.TOz p2)
    refine wpAny_bind (wpAny_seqItems pb rfl (wpAny_bind (wpAny_updateSeq_pair pb fun hc pc sc => ?_)))
    refine wpAny_bind (wpAny_letGo (wpAny_pure (wpAny_bind (wpAny_bind (wpAny_onRaise ?_))))); show wpAny _ _ (Builtin.SmallTypes.nextOf (.ref j2) >>= _) _ _ _
    have t2c := ((t2.extBut sa.extBut D.i2z).extBut sb.extBut D.i12.symm).extBut sc.extBut D.TOi2.symm
    have hvc := ((hv.extBut sa.extBut D.l2z).extBut sb.extBut D.l2i1).extBut sc.extBut D.l2TO
    refine wpAny_bind (wpAny_nextOf_list_end hh t2c hvc ey fun hd e sd st => ?_)
    obtain ⟨oe, q1, q2⟩ := st
    have zd : IsZip hd zz T1 T2 .ellipsis := sd _ _ D.i2z.symm (sc.extBut _ _ D.TOz.symm (sb.extBut _ _ D.i1z.symm za))
    have ne : e ≠ zz := fun q => by subst q; rw [zd] at q1; cases q1; simp at q2
    exact wpAny_setField_rec zd (by simp) fun hf _ sf => hE hf e (fun c o c1 c2 c3 c4 q => sf.extBut _ _ c1 (sd _ _ c4 (sc.extBut _ _ c2 (sb.extBut _ _ c3 (sa.extBut _ _ c1 q))))) ⟨oe, sf.extBut _ _ ne q1, q2⟩
theorem zm_nextI {Q : Option Value → Shared → Prop} (D : ZipApart zz T1 T2 j1 j2 u1 u2) (Z : ZmAt s.heap zz T1 T2 j1 j2 u1 u2 n1 n2 .none a b) (hu : s.heap.IsTuple u1 xs) (hv : s.heap.IsList u2 ys) (ex : xs[n1]? = some x) (ey : ys[n2]? = some y)
    (hQ : ∀ h', ZmAt h' zz T1 T2 j1 j2 u1 u2 (n1 + 1) (n2 + 1) (rawInt s.heap.objs.size) x y → IsPair h' s.heap.objs.size x y → h'.objs.size = s.heap.objs.size + 1 → ZmKeep s.heap h' zz T2 j1 j2 → Q (some (.ref s.heap.objs.size)) { s with heap := h' }) :
    wpAny (model prog w) A (pyNext (.ref zz)) Q E s := by
  have ty : s.TypeIs (.ref zz) "zip" := ⟨_, Z.zp, rfl⟩
  unfold pyNext
  exact wpAny_bind (wpAny_attempt (wpAny_callSpecial?_slot (name := Str.ofString "__next__") ty F.slot_zip_next (wpAny_call_entry F.slot_zip_next ty F.entry_zip_next (zm_item D Z hu hv ex ey fun h' b1 b2 b3 b4 => wpAny_pure (hQ h' b1 b2 b3 b4)) (F.args_zip_next_1 _))))
theorem zm_nextE {Q : Option Value → Shared → Prop} (hh : A.handled = none) (D : ZipApart zz T1 T2 j1 j2 u1 u2) (Z : ZmAt s.heap zz T1 T2 j1 j2 u1 u2 n1 n2 .none a b) (hu : s.heap.IsTuple u1 xs) (hv : s.heap.IsList u2 ys) (ee : xs[n1]? = none ∨ ys[n2]? = none)
    (hQ : ∀ h', ZmKeep s.heap h' zz T2 j1 j2 → Q none { s with heap := h' }) : wpAny (model prog w) A (pyNext (.ref zz)) Q E s := by
  have ty : s.TypeIs (.ref zz) "zip" := ⟨_, Z.zp, rfl⟩
  unfold pyNext
  refine wpAny_bind (wpAny_attempt (wpAny_callSpecial?_slot (name := Str.ofString "__next__") ty F.slot_zip_next (wpAny_call_entry F.slot_zip_next ty F.entry_zip_next (zm_end hh D Z hu hv ee fun h' e hk st => ?_) (F.args_zip_next_1 _))))
  obtain ⟨o, q1, q2⟩ := st
  refine wpAny_bind (wpAny_isInstance (T := "StopIteration") (b := true) ⟨o, q1, q2⟩ isSubtype_stop (wpAny_pure (hQ _ hk)))
/-! ### zip(t, l) is made -/
abbrev zmA (h : Heap) (u1 : Addr) : Heap := h.push { cls := .type "tuple_iterator", data := .fields #[.ref u1, .int 0 0] }
abbrev zmB (h : Heap) (u1 u2 : Addr) : Heap := (zmA h u1).push { cls := .type "list_iterator", data := .fields #[.ref u2, .int 0 0] }
abbrev zmC (h : Heap) (u1 u2 : Addr) : Heap := (zmB h u1 u2).push { cls := .type "tuple", data := .seq #[.ref h.objs.size, .ref (zmA h u1).objs.size] }
abbrev zmD (h : Heap) (u1 u2 : Addr) : Heap := (zmC h u1 u2).push { cls := .type "tuple", data := .seq #[.none, .none] }
abbrev zmE (h : Heap) (u1 u2 : Addr) : Heap := (zmD h u1 u2).push { cls := .type "zip", data := .fields #[.none, .bool false, .bool false, .ref (zmB h u1 u2).objs.size, .ref (zmC h u1 u2).objs.size] }
theorem zm_meets (u1 u2 : Addr) (xs ys : Array Value) :
    Meets (Builtin.«zip.__new__» ⟨[.type "zip", .ref u1, .ref u2], []⟩) (fun _ R s => s.heap.IsTuple u1 xs ∧ s.heap.IsList u2 ys ∧ R (.ok (.ret (.ref (zmD s.heap u1 u2).objs.size))) { s with heap := zmE s.heap u1 u2 }) :=
  .of_wp fun prog w A R s q => by
    obtain ⟨hp, g, d, tk, os⟩ := s; obtain ⟨hu, hv, q⟩ := q
    have sb := sub_zip
    have hU : Heap.IsTuple (Shared.heap ⟨hp, g, d, tk, os⟩) u1 xs := hu
    have hV : Heap.IsList (Shared.heap ⟨hp.push { cls := .type "tuple_iterator", data := .fields #[.ref u1, .int 0 0] }, g, d, tk, os⟩) u2 ys := Heap.IsList.push hv _
    wp_walk using wpAny_pyIter_tuple hU, wpAny_pyIter_list hV
    exact ⟨_, rfl, q⟩
theorem zm_call {u1 u2 : Addr} {xs ys : Array Value} {Q : Value → Shared → Prop} (hu : s.heap.IsTuple u1 xs) (hv : s.heap.IsList u2 ys)
    (q : ∀ h', ZmAt h' (s.heap.objs.size + 4) (s.heap.objs.size + 2) (s.heap.objs.size + 3) s.heap.objs.size (s.heap.objs.size + 1) u1 u2 0 0 .none .none .none → (∀ c o, s.heap.get? c = some o → h'.get? c = some o) → Q (.ref (s.heap.objs.size + 4)) { s with heap := h' }) :
    wpAny (model prog w) A (call (.type "zip") [.ref u1, .ref u2]) Q E s := by
  refine callType_new F.called_zip (by decide) (F.typeCall_zip_2 _ _) (F.newCall_zip_2 _ _) (fun obj => F.args_object_init_3 obj _ _) F.entry_zip_new (zm_meets u1 u2 xs ys) ⟨hu, hv, ?_⟩
  have nA : (zmA s.heap u1).objs.size = s.heap.objs.size + 1 := Heap.size_push ..
  have nB : (zmB s.heap u1 u2).objs.size = s.heap.objs.size + 2 := by rw [Heap.size_push, nA]
  have nC : (zmC s.heap u1 u2).objs.size = s.heap.objs.size + 3 := by rw [Heap.size_push, nB]
  have nD : (zmD s.heap u1 u2).objs.size = s.heap.objs.size + 4 := by rw [Heap.size_push, nC]
  have pu : ∀ {h : Heap} {o o' : Obj} {c : Addr}, h.get? c = some o → (h.push o').get? c = some o := fun e => Heap.get?_push_of_some _ e
  have eE : (zmE s.heap u1 u2).get? (zmD s.heap u1 u2).objs.size = some _ := Heap.get?_push_size _ rfl
  have eD : (zmE s.heap u1 u2).get? (zmC s.heap u1 u2).objs.size = some _ := pu (Heap.get?_push_size _ rfl)
  have eC : (zmE s.heap u1 u2).get? (zmB s.heap u1 u2).objs.size = some _ := pu (pu (Heap.get?_push_size _ rfl))
  have eB : (zmE s.heap u1 u2).get? (zmA s.heap u1).objs.size = some _ := pu (pu (pu (Heap.get?_push_size _ rfl)))
  have eA : (zmE s.heap u1 u2).get? s.heap.objs.size = some _ := pu (pu (pu (pu (Heap.get?_push_size _ rfl))))
  show _ ∧ _
  rw [nB, nC, nD] at eE
  rw [nA, nB] at eC
  rw [nC] at eD
  rw [nA] at eB
  rw [nD]
  exact ⟨⟨_, eE, rfl⟩, q _ ⟨eE, eC, eD, ⟨_, eA, rfl, rfl⟩, ⟨_, eB, rfl, rfl⟩⟩ fun c o e => pu (pu (pu (pu (pu e))))⟩
end
/-- the tuple at a and the list at b as they stand at each turn, the items in new pairs -/
def ItzM (K : PySem.W.Frag) (a b : Addr) : It where
  go := fun i H => ∃ (xs ys : List V) (x y : V), SqT K H a xs ∧ (SqL K H b ys ∧ (xs[i]? = some x ∧ ys[i]? = some y))
  yld := fun i H v H' => ∃ T x y, (v = .ref T ∧ H T = none) ∧ (H' = upd H T (.tup [x, y]) ∧ ((∀ xs, SqT K H a xs → xs[i]? = some x) ∧ ∀ ys, SqL K H b ys → ys[i]? = some y))
  stop := fun i H => ∃ xs ys : List V, SqT K H a xs ∧ (SqL K H b ys ∧ (xs.length ≤ i ∨ ys.length ≤ i))
theorem turn_zm {P : Program} {w : World} {K : PySem.W.Frag} {elts : List Expr} {kk : Nat} {tpos : Pos} {a b zz T1 T2 j1 j2 : Addr} (D : ZipApart zz T1 T2 j1 j2 a b) :
    Turn P w K (.Tuple elts kk tpos) (ItzM K a b) [zz, T1, T2, j1, j2] zz (fun i h => ∃ x y, ZmAt h zz T1 T2 j1 j2 a b i i .none x y) where
  mem := by simp
  obj := fun i h st c hc => by
    obtain ⟨x, y, zp, p1, p2, ⟨o1, e1, _, d1⟩, ⟨o2, e2, _, d2⟩⟩ := st
    simp only [List.mem_cons, List.not_mem_nil, or_false] at hc
    rcases hc with rfl | rfl | rfl | rfl | rfl
    · exact ⟨_, zp, nofun⟩
    · exact ⟨_, p1, nofun⟩
    · exact ⟨_, p2, nofun⟩
    · exact ⟨o1, e1, fun v q => by rw [d1] at q; cases q⟩
    · exact ⟨o2, e2, fun v q => by rw [d2] at q; cases q⟩
  keep := fun i h h' st k => by
    obtain ⟨x, y, zp, p1, p2, t1, t2⟩ := st
    exact ⟨x, y, k zz (by simp) _ zp, k T1 (by simp) _ p1, k T2 (by simp) _ p2, t1.at fun o q => k j1 (by simp) o q, t2.at fun o q => k j2 (by simp) o q⟩
  item := by
    rintro X rfl rfl rfl hc i pins s σ H E I hf ⟨x0, y0, Z⟩ ⟨xs, ys, x, y, qx, qy, hx, hy⟩
    obtain ⟨us, rv, p, _⟩ := I.tuple qx
    obtain ⟨ws, rw_, p2, _⟩ := I.list qy
    obtain ⟨u, hu, ru⟩ := rv.get hx
    obtain ⟨w, hw, rww⟩ := rw_.get hy
    have zl : zz < s.heap.objs.size := Heap.lt_size Z.zp
    refine zm_nextI D Z p p2.isList (x := u) (y := w) (by simpa using hu) (by simpa using hw) fun hb Z2 pT nb hk => ?_
    refine ⟨_, rfl, wpAny_letOwnedTupleGo_zip (s := { s with heap := hb }) Z2.zp fun hd zd sb => ?_⟩
    have up : ∀ c o, c ≠ zz → hb.get? c = some o → hd.get? c = some o := fun c o n e => (sb.2 c n).trans e
    have pT2 := up _ _ (Nat.ne_of_gt zl) pT
    have nw : ObjOk X.prog X.w (upd H s.heap.objs.size (.tup [x, y])) hd s.heap.objs.size (.tup [x, y]) := ⟨by show 2 ≤ sizeLine; decide, [u, w], .cons ru (.cons rww .nil), ⟨_, pT2, rfl, _, rfl⟩⟩
    have J : L2.Inv X pins σ (upd H s.heap.objs.size (.tup [x, y])) { s with heap := hd } := I.turnedNew (t' := s.toks) (ch := [zz, T1, T2, j1, j2]) (fun c o nm e => by
      simp only [List.mem_cons, List.not_mem_nil, or_false, not_or] at nm
      exact up c o nm.1 (hk c o nm.1 nm.2.2.1 nm.2.2.2.1 nm.2.2.2.2 e)) hf (Nat.le_refl _) nw
    have lt : ∀ c ∈ [zz, T1, T2, j1, j2], c < s.heap.objs.size := fun c m => by
      obtain ⟨_, q1, q2, ⟨_, q3, _⟩, ⟨_, q4, _⟩⟩ := Z
      simp only [List.mem_cons, List.not_mem_nil, or_false] at m
      rcases m with rfl | rfl | rfl | rfl | rfl <;> first | exact zl | exact Heap.lt_size q1 | exact Heap.lt_size q2 | exact Heap.lt_size q3 | exact Heap.lt_size q4
    refine ⟨.ref s.heap.objs.size, _, J, rfl, ⟨_, x, y, ⟨rfl, I.hok.fresh (Nat.le_refl _)⟩, rfl, fun l hl => by rw [I.tuple_inj hl qx]; exact hx, fun l hl => by rw [I.list_inj hl qy]; exact hy⟩, ⟨u, w, zd, ?_, ?_, ?_, ?_⟩, fun c m => ?_⟩
    · exact up _ _ D.TIz Z2.p1
    · exact up _ _ D.TOz Z2.p2
    · exact Z2.t1.at fun o q => up _ o D.i1z q
    · exact Z2.t2.at fun o q => up _ o D.i2z q
    · rw [upd_ne (Nat.ne_of_lt (lt c m))]; exact (hf c m).1
  done := by
    rintro X rfl rfl rfl hc i pins s σ H E I hf ⟨x0, y0, Z⟩ ⟨xs, ys, qx, qy, he⟩
    obtain ⟨us, rv, p, _⟩ := I.tuple qx
    obtain ⟨ws, rw_, p2, _⟩ := I.list qy
    have l1 := rv.length
    have l2 := rw_.length
    have ee : us.toArray[i]? = none ∨ ws.toArray[i]? = none := he.imp (fun q => by simp; omega) fun q => by simp; omega
    refine zm_nextE (I.ok.hd hc) D Z p p2.isList ee fun hb hk => ⟨rfl, I.turnedL (t' := s.toks) (ch := [zz, T1, T2, j1, j2]) (fun c o nm e => ?_) hf⟩
    simp only [List.mem_cons, List.not_mem_nil, or_false, not_or] at nm
    exact hk c o nm.1 nm.2.2.1 nm.2.2.2.1 nm.2.2.2.2 e
  self := fun A i s Q E st q => by obtain ⟨_, _, Z⟩ := st; exact wpAny_pyIter_zip Z.zp q
/-- zip of a list or a tuple, and a list -/
def iZipS (K : PySem.W.Frag) (ta : TA) : TI := fun σ H R => ta σ H fun vs H1 => ∃ a b xs ys, vs = [.ref a, .ref b] ∧ (SqL K H1 b ys ∧ ((SqL K H1 a xs ∧ R (Itz K a b) H1) ∨ (SqT K H1 a xs ∧ R (ItzM K a b) H1)))
theorem pi_zipS {X : Cx} {e1 e2 : Expr} {ta : TA} {p pos tpos : Pos} {elts : List Expr} {kk : Nat} (hg : Gl X "zip") (hm : X.mg "zip" = none) (ha : PA X [e1, e2] ta) (h1 : starEach [e1, e2] X.env = (false, eval e1 X.env) :: starEach [e2] X.env) (h2 : (backTo pos (starEach [e2] X.env)).any (·.1) = false) :
    PI X (.Tuple elts kk tpos) (.Call (.Name "zip" p) [e1, e2] [] pos) (iZipS X.K ta) := by
  refine ⟨fun pins s σ H R I q => Call_ (ld_blt I hg hm PyProof.Rows.boot_zip (PyProof.Rows.callWith_type1 (thn (ha.run pos pins s σ H _ I q) fun us s1 ⟨vs, H1, J, r1, q1⟩ => ?_) h1 h2))⟩
  obtain ⟨a, b, xs, ys, rfl, qb, q1⟩ := q1
  obtain ⟨va, vb, rfl, ra, rb⟩ := vals2 r1
  obtain rfl : va = Value.ref a := ra
  obtain rfl : vb = Value.ref b := rb
  have fresh : ∀ c ∈ [s1.heap.objs.size + 4, s1.heap.objs.size + 2, s1.heap.objs.size + 3, s1.heap.objs.size, s1.heap.objs.size + 1], FpOk X pins H1 c := fun c m => by
    have le : s1.heap.objs.size ≤ c := by
      simp only [List.mem_cons, List.not_mem_nil, or_false] at m
      omega
    exact J.fpOk le (J.hok.fresh le)
  obtain ⟨ws, rw_, p2, _⟩ := J.list qb
  rcases q1 with ⟨qa, q1⟩ | ⟨qa, q1⟩
  · obtain ⟨us, rv, p1, _⟩ := J.list qa
    refine call_zip_2 p1.isList p2.isList fun h' z1 z2 z3 z4 z5 _ hk => wpAny_pyIter_zip z1 ⟨_, _, _, _, H1, rfl, J.kept (t' := s1.toks) hk, turn_zip (PySem.W.ktu_apart _ a b p1.lt p2.lt), ⟨z1, z2, ⟨_, _, z3⟩, z4, z5⟩, fresh, q1⟩
  · obtain ⟨us, rv, p1, _⟩ := J.tuple qa
    obtain ⟨o1, ho1, _⟩ := id p1
    refine zm_call p1 p2.isList fun h' Z hk => wpAny_pyIter_zip Z.zp ⟨_, _, _, _, H1, rfl, J.kept (t' := s1.toks) hk, turn_zm (PySem.W.ktu_apart _ a b (Heap.lt_size ho1) p2.lt), ⟨_, _, Z⟩, fresh, q1⟩
end Py

set_option Elab.async false
set_option linter.all false
set_option maxRecDepth 100000
set_option maxHeartbeats 4000000
/-! PySound4: what loops walk; targets; statements. -/
namespace Py
open PySem PySem.Spec PyProof.Rows L2

theorem _root_.L2.PI.wk {X : Cx} {tg it : Expr} {t t' : TI} (p : PI X tg it t) (h : ∀ σ H R, t' σ H R → t σ H R) : PI X tg it t' := ⟨fun pins s σ H R I q => p.run pins s σ H R I (h _ _ _ q)⟩
theorem _root_.L2.PG.wk {X : Cx} {tg : Expr} {t t' : TG} (p : PG X tg t) (h : ∀ v σ H R, t' v σ H R → t v σ H R) : PG X tg t' := ⟨fun pins s σ H v u R I r q => p.run pins s σ H v u R I r (h _ _ _ _ q)⟩
theorem _root_.L2.PGs.wk {X : Cx} {tg : List Expr} {t t' : TGs} (p : PGs X tg t) (h : ∀ v σ H R, t' v σ H R → t v σ H R) : PGs X tg t' := ⟨fun pins s σ H v u R I r q => p.run pins s σ H v u R I r (h _ _ _ _ q)⟩
theorem _root_.L2.PS.wk {X : Cx} {st : Stmt} {t t' : TS} (p : PS X st t) (h : ∀ D σ H, t' D σ H → t D σ H) : PS X st t' := ⟨fun pins s σ H D I q => p.run pins s σ H D I (h _ _ _ q)⟩
theorem _root_.L2.PSs.wk {X : Cx} {st : List Stmt} {t t' : TS} (p : PSs X st t) (h : ∀ D σ H, t' D σ H → t D σ H) : PSs X st t' := ⟨fun pins s σ H D I q => p.run pins s σ H D I (h _ _ _ q)⟩

/-! ### what a loop walks -/
/-- a walk of the layer that gives these items while live holds -/
structure Wk (M : Mo) (m1 : List Addr) (H1 : Hp) (items : List PV) (live : PH → Prop) (J : It) : Prop where
  ex : ∃ (G : Hp → Prop) (Y : Nat → Hp → V → Hp → Prop), L2.Walk J items.length G Y ∧
    (∀ (m : List Addr) (H : Hp) (h : PH), Ex m1 m → Kp M.K H1 H → RH M H m h → live h → G H) ∧
    (∀ (i : Nat) (m : List Addr) (H : Hp) (h : PH) (x : V) (H' : Hp), Ex m1 m → Kp M.K H1 H → RH M H m h → live h → i < items.length → Y i H x H' → ∃ v, items[i]? = some v ∧ RH M H' m h ∧ Kp M.K H H' ∧ RV M.K H' m v x)
def LI (M : Mo) (m : List Addr) (H : Hp) (R : It → Hp → Prop) : KI := fun items live h1 => ∀ (m1 : List Addr) (H1 : Hp) (J : It), Ex m m1 → Kp M.K H H1 → RH M H1 m1 h1 → Wk M m1 H1 items live J → R J H1
theorem LI.mono {M : Mo} {m m1 : List Addr} {H H1 : Hp} {R : It → Hp → Prop} (e : Ex m m1) (k : Kp M.K H H1) : ∀ a b c, LI M m H R a b c → LI M m1 H1 R a b c := fun a b c q m' H' J e' k' r w => q m' H' J (e.trans e') (k.trans k') r w
abbrev DI := KX → Loc → PH → KI → Prop
def tI (M : Mo) (W : WX) (d : DI) : TI := fun σ H R => ∃ m l h, RH M H m h ∧ RL M.K H m l σ ∧ d (LX M W σ m H) l h (LI M m H R)
theorem RVs.get' {K : PySem.W.Frag} {H : Hp} {m : List Addr} {xs : List PV} {vs : List V} {i : Nat} {x : V} (h : RVs K H m xs vs) (e : vs[i]? = some x) : ∃ v, xs[i]? = some v ∧ RV K H m v x := by
  have h1 := (List.getElem?_eq_some_iff.mp e).1
  rw [← h.len] at h1
  have e2 : xs[i]? = some xs[i] := List.getElem?_eq_getElem h1
  obtain ⟨w, e3, r⟩ := h.get e2
  rw [e] at e3; cases e3
  exact ⟨_, e2, r⟩
theorem lst_ref {h : PH} {v : PV} {xs : List PV} (e : lstOf h v = some xs) : ∃ a, v = .ref a := by
  cases v <;> first | exact ⟨_, rfl⟩ | cases e
/-- a list's live content -/
theorem live_now {M : Mo} {H1 H : Hp} {m1 m : List Addr} {h : PH} {v : PV} {p : Addr} {xs : List PV} (e : Ex m1 m) (k : Kp M.K H1 H) (r : RH M H m h) (hv : RV M.K H1 m1 v (.ref p)) (hr : ∃ a, v = .ref a) (lv : liveL v xs h) : ∃ ws, SqL M.K H p ws ∧ RVs M.K H m xs ws := by
  obtain ⟨a, rfl⟩ := hr
  obtain ⟨p', ws, e1, e2, e3⟩ := lstOf_get r (hv.mono k e _ _) lv
  cases e1
  exact ⟨ws, e2, e3⟩
theorem walk_listG {K : PySem.W.Frag} {a : Addr} {n : Nat} : L2.Walk (Itl K a) n (fun H => ∃ ws, SqL K H a ws ∧ ws.length = n) (fun i H x H' => H' = H ∧ ∀ ws, SqL K H a ws → ws[i]? = some x) :=
  ⟨fun i _ hi ⟨ws, q, e⟩ => ⟨ws, ws[i]'(by rw [e]; exact hi), q, by simp [e, hi]⟩, fun _ ⟨ws, q, e⟩ => ⟨ws, q, Nat.le_of_eq e⟩, fun _ _ _ _ _ _ y => y⟩
theorem walk_enumG {K : PySem.W.Frag} {a : Addr} {n : Nat} : L2.Walk (Ite K a) n (fun H => ∃ ws, SqL K H a ws ∧ ws.length = n) (fun i H v H' => ∃ T x, v = .ref T ∧ H T = none ∧ H' = upd H T (.tup [.int (i : Nat), x]) ∧ ∀ xs, SqL K H a xs → xs[i]? = some x) :=
  ⟨fun i _ hi ⟨ws, q, e⟩ => ⟨ws, ws[i]'(by rw [e]; exact hi), q, by simp [e, hi]⟩, fun _ ⟨ws, q, e⟩ => ⟨ws, q, Nat.le_of_eq e⟩, fun _ _ _ _ _ _ y => y⟩
theorem walk_revG {K : PySem.W.Frag} {a : Addr} {n : Nat} : L2.Walk (Itv K a n) n (fun H => ∃ ws, SqL K H a ws ∧ ws.length = n) (fun i H x H' => H' = H ∧ ∀ ws, SqL K H a ws → ws[n - 1 - i]? = some x) :=
  ⟨fun i _ hi ⟨ws, q, e⟩ => ⟨hi, ws, ws[n - 1 - i]'(by rw [e]; omega), q, by simp [e, show n - 1 - i < n by omega]⟩, fun _ _ => Nat.le_refl _, fun _ _ _ _ _ _ y => y⟩
theorem walk_zipG {K : PySem.W.Frag} {a b : Addr} {n1 n2 : Nat} : L2.Walk (Itz K a b) (min n1 n2) (fun H => (∃ ws, SqL K H a ws ∧ ws.length = n1) ∧ ∃ zs, SqL K H b zs ∧ zs.length = n2)
    (fun i H v H' => ∃ T x y, v = .ref T ∧ H T = none ∧ H' = upd H T (.tup [x, y]) ∧ (∀ xs, SqL K H a xs → xs[i]? = some x) ∧ ∀ ys, SqL K H b ys → ys[i]? = some y) :=
  ⟨fun i _ hi ⟨⟨ws, q, e⟩, zs, q', e'⟩ => ⟨ws, zs, ws[i]'(by rw [e]; omega), zs[i]'(by rw [e']; omega), q, q', by simp [e, show i < n1 by omega], by simp [e', show i < n2 by omega]⟩,
    fun _ ⟨⟨ws, q, e⟩, zs, q', e'⟩ => ⟨ws, zs, q, q', by omega⟩, fun _ _ _ _ _ _ y => y⟩
section
variable {M : Mo} {m1 : List Addr} {H1 : Hp}
theorem wk_list {v : PV} {p : Addr} {xs : List PV} (hv : RV M.K H1 m1 v (.ref p)) (hr : ∃ a, v = .ref a) : Wk M m1 H1 xs (liveL v xs) (Itl M.K p) := by
  refine ⟨_, _, walk_listG, fun m H h e k r lv => ?_, fun i m H h x H' e k r lv hi y => ?_⟩
  · obtain ⟨ws, q, rv⟩ := live_now e k r hv hr lv
    exact ⟨ws, q, rv.len.symm⟩
  · obtain ⟨rfl, y⟩ := y
    obtain ⟨ws, q, rv⟩ := live_now e k r hv hr lv
    obtain ⟨u, e1, e2⟩ := rv.get' (y ws q)
    exact ⟨u, e1, r, Kp.refl _ _, e2⟩
theorem wk_tup {p : Addr} {vs : List V} {xs : List PV} {live : PH → Prop} (h : SqT M.K H1 p vs) (rv : RVs M.K H1 m1 xs vs) : Wk M m1 H1 xs live (Itt M.K p) := by
  refine ⟨_, _, by rw [rv.len]; exact walk_tup (xs := vs), fun m H h' e k r lv => k _ _ h, fun i m H h' x H' e k r lv hi y => ?_⟩
  obtain ⟨rfl, y⟩ := y
  obtain ⟨u, e1, e2⟩ := (rv.mono k e).get' y
  exact ⟨u, e1, r, Kp.refl _ _, e2⟩
theorem wk_str {s : Str} {live : PH → Prop} : Wk M m1 H1 (s.cps.toList.map fun c => .str ⟨#[c]⟩) live (Its s) := by
  refine ⟨_, _, by rw [List.length_map, Array.length_toList]; exact walk_str, fun _ _ _ _ _ _ _ => trivial, fun i m H h' x H' e k r lv hi y => ?_⟩
  obtain ⟨rfl, c, e1, rfl⟩ := y
  exact ⟨.str ⟨#[c]⟩, by rw [List.getElem?_map, Array.getElem?_toList, e1] <;> rfl, r, Kp.refl _ _, rfl⟩
theorem wk_range {lo : Int} {n : Nat} {live : PH → Prop} : Wk M m1 H1 (rangeL lo n) live (Itr lo n) := by
  refine ⟨_, _, by unfold rangeL; rw [List.length_map, List.length_range]; exact walk_range, fun _ _ _ _ _ _ _ => trivial, fun i m H h' x H' e k r lv hi y => ?_⟩
  obtain ⟨rfl, rfl⟩ := y
  have hi' : i < n := by unfold rangeL at hi; simpa using hi
  exact ⟨.int (lo + (i : Nat)), by unfold rangeL; rw [List.getElem?_map, List.getElem?_range hi'] <;> rfl, r, Kp.refl _ _, rfl⟩
theorem enum_get : ∀ (xs : List PV) (n i : Nat), (enumFrom n xs)[i]? = xs[i]?.map fun x => .tup [.int ((n + i : Nat) : Int), x]
  | [], n, i => by simp [enumFrom]
  | x :: r, n, 0 => rfl
  | x :: r, n, i + 1 => by
    show (enumFrom (n + 1) r)[i]? = (r[i]?).map _
    rw [enum_get r (n + 1) i, show n + 1 + i = n + (i + 1) by omega]
theorem enum_len : ∀ (xs : List PV) (n : Nat), (enumFrom n xs).length = xs.length
  | [], _ => rfl
  | x :: r, n => congrArg Nat.succ (enum_len r (n + 1))
theorem zip_len : ∀ (xs ys : List PV), (zipT xs ys).length = min xs.length ys.length
  | [], ys => by simp [zipT]
  | x :: xs, [] => by simp [zipT]
  | x :: xs, y :: ys => by simp [zipT, zip_len xs ys]
theorem zip_get : ∀ (xs ys : List PV) (i : Nat) (x y : PV), xs[i]? = some x → ys[i]? = some y → (zipT xs ys)[i]? = some (.tup [x, y])
  | [], ys, i, x, y, h, _ => by simp at h
  | a :: xs, [], i, x, y, _, h => by simp at h
  | a :: xs, b :: ys, 0, x, y, h1, h2 => by simp at h1 h2; subst h1 h2; rfl
  | a :: xs, b :: ys, i + 1, x, y, h1, h2 => by
    show (zipT xs ys)[i]? = _
    exact zip_get xs ys i x y (by simpa using h1) (by simpa using h2)
theorem wk_enum {v : PV} {p : Addr} {xs : List PV} (hv : RV M.K H1 m1 v (.ref p)) (hr : ∃ a, v = .ref a) : Wk M m1 H1 (enumFrom 0 xs) (liveL v xs) (Ite M.K p) := by
  refine ⟨_, _, by rw [enum_len]; exact walk_enumG, fun m H h e k r lv => ?_, fun i m H h x H' e k r lv hi y => ?_⟩
  · obtain ⟨ws, q, rv⟩ := live_now e k r hv hr lv
    exact ⟨ws, q, rv.len.symm⟩
  · obtain ⟨T, z, rfl, hT, rfl, y⟩ := y
    obtain ⟨ws, q, rv⟩ := live_now e k r hv hr lv
    obtain ⟨u, e1, e2⟩ := rv.get' (y ws q)
    refine ⟨.tup [.int (i : Nat), u], ?_, r.tup hT, Kp.upd_new hT, ⟨T, _, rfl, .inl (.inl upd_same), ⟨_, _, rfl, rfl, RVs.one (e2.mono (Kp.upd_new hT) (Ex.refl m) _ _)⟩⟩⟩
    rw [enum_get, e1, Nat.zero_add] <;> rfl
theorem wk_zip {v u : PV} {p q : Addr} {xs ys : List PV} (hv : RV M.K H1 m1 v (.ref p)) (hr : ∃ a, v = .ref a) (hu : RV M.K H1 m1 u (.ref q)) (hs : ∃ a, u = .ref a) : Wk M m1 H1 (zipT xs ys) (fun h => liveL v xs h ∧ liveL u ys h) (Itz M.K p q) := by
  refine ⟨_, _, by rw [zip_len]; exact walk_zipG, fun m H h e k r lv => ?_, fun i m H h x H' e k r lv hi y => ?_⟩
  · obtain ⟨ws, q1, rv⟩ := live_now e k r hv hr lv.1
    obtain ⟨zs, q2, rz⟩ := live_now e k r hu hs lv.2
    exact ⟨⟨ws, q1, rv.len.symm⟩, zs, q2, rz.len.symm⟩
  · obtain ⟨T, z1, z2, rfl, hT, rfl, y1, y2⟩ := y
    obtain ⟨ws, q1, rv⟩ := live_now e k r hv hr lv.1
    obtain ⟨zs, q2, rz⟩ := live_now e k r hu hs lv.2
    obtain ⟨u1, e1, e2⟩ := rv.get' (y1 ws q1)
    obtain ⟨u2, e3, e4⟩ := rz.get' (y2 zs q2)
    have kk := Kp.upd_new (K := M.K) (o := HO.tup [z1, z2]) hT
    exact ⟨.tup [u1, u2], zip_get xs ys i u1 u2 e1 e3, r.tup hT, kk, ⟨T, _, rfl, .inl (.inl upd_same), ⟨_, _, rfl, e2.mono kk (Ex.refl m) _ _, RVs.one (e4.mono kk (Ex.refl m) _ _)⟩⟩⟩
theorem wk_zipM {u : PV} {p q : Addr} {vs : List V} {xs ys : List PV} {L : PH → Prop} (hx : SqT M.K H1 p vs) (rx : RVs M.K H1 m1 xs vs) (hu : RV M.K H1 m1 u (.ref q)) (hs : ∃ a, u = .ref a) : Wk M m1 H1 (zipT xs ys) (fun h => L h ∧ liveL u ys h) (ItzM M.K p q) := by
  refine ⟨fun H => SqT M.K H p vs ∧ ∃ zs, SqL M.K H q zs ∧ zs.length = ys.length, fun i H v H' => ∃ T x y, (v = .ref T ∧ H T = none) ∧ (H' = upd H T (.tup [x, y]) ∧ ((∀ xs, SqT M.K H p xs → xs[i]? = some x) ∧ ∀ ys, SqL M.K H q ys → ys[i]? = some y)), ⟨fun i H hi ⟨q1, zs, q2, e2⟩ => ?_, fun H ⟨q1, zs, q2, e2⟩ => ?_, fun _ _ _ _ _ _ y => y⟩, fun m H h e k r lv => ?_, fun i m H h x H' e k r lv hi y => ?_⟩
  · rw [zip_len] at hi
    have l1 := rx.len
    exact ⟨vs, zs, vs[i]'(by omega), zs[i]'(by omega), q1, q2, by simp [show i < vs.length by omega], by simp [show i < zs.length by omega]⟩
  · rw [zip_len]
    have l1 := rx.len
    exact ⟨vs, zs, q1, q2, by omega⟩
  · obtain ⟨zs, q2, rz⟩ := live_now e k r hu hs lv.2
    exact ⟨k _ _ hx, zs, q2, rz.len.symm⟩
  · obtain ⟨T, z1, z2, ⟨rfl, hT⟩, rfl, y1, y2⟩ := y
    obtain ⟨zs, q2, rz⟩ := live_now e k r hu hs lv.2
    obtain ⟨u1, e1, e2⟩ := (rx.mono k e).get' (y1 vs (k _ _ hx))
    obtain ⟨u2, e3, e4⟩ := rz.get' (y2 zs q2)
    have kk := Kp.upd_new (K := M.K) (o := HO.tup [z1, z2]) hT
    exact ⟨.tup [u1, u2], zip_get xs ys i u1 u2 e1 e3, r.tup hT, kk, ⟨T, _, rfl, .inl (.inl upd_same), ⟨_, _, rfl, e2.mono kk (Ex.refl m) _ _, RVs.one (e4.mono kk (Ex.refl m) _ _)⟩⟩⟩
theorem wk_rev {v : PV} {p : Addr} {xs : List PV} (hv : RV M.K H1 m1 v (.ref p)) (hr : ∃ a, v = .ref a) : Wk M m1 H1 xs.reverse (liveL v xs) (Itv M.K p xs.length) := by
  refine ⟨_, _, by rw [List.length_reverse]; exact walk_revG, fun m H h e k r lv => ?_, fun i m H h x H' e k r lv hi y => ?_⟩
  · obtain ⟨ws, q, rv⟩ := live_now e k r hv hr lv
    exact ⟨ws, q, rv.len.symm⟩
  · obtain ⟨rfl, y⟩ := y
    obtain ⟨ws, q, rv⟩ := live_now e k r hv hr lv
    obtain ⟨u, e1, e2⟩ := rv.get' (y ws q)
    rw [List.length_reverse] at hi
    exact ⟨u, by rw [List.getElem?_reverse hi]; exact e1, r, Kp.refl _ _, e2⟩
end
section
variable {X : Cx} {tg : Expr} {pins : List (Addr × Obj)} {σ : L2.St} {s1 : Shared} {H1 : Hp} {R : It → Hp → Prop}
theorem iter_list {a : Addr} {xs : List V} (I1 : L2.Inv X pins σ H1 s1) (hq : SqL X.K H1 a xs) (q : R (Itl X.K a) H1) : wpAny (model X.prog X.w) X.A (pyIter (.ref a)) (PIE X pins σ tg R) X.xe s1 := by
  obtain ⟨its, rv, p, hz⟩ := I1.list hq
  refine wpAny_pyIter_list p.isList ?_
  refine ⟨s1.heap.objs.size, [s1.heap.objs.size], _, _, H1, rfl, I1.kept (t' := s1.toks) fun b o e => Heap.get?_push_of_some _ e, turn_list a _, ⟨_, Heap.get?_push_size _ rfl, rfl, rfl⟩, fun b hb => ?_, q⟩
  have e : b = s1.heap.objs.size := by simpa using hb
  subst e
  exact I1.fpOk (Nat.le_refl _) (I1.hok.fresh (Nat.le_refl _))
theorem iter_tup {a : Addr} {xs : List V} (I1 : L2.Inv X pins σ H1 s1) (hq : SqT X.K H1 a xs) (q : R (Itt X.K a) H1) : wpAny (model X.prog X.w) X.A (pyIter (.ref a)) (PIE X pins σ tg R) X.xe s1 := by
  obtain ⟨its, rv, p, hz⟩ := I1.tuple hq
  refine wpAny_pyIter_tuple (show s1.heap.IsTuple a its.toArray from p) ?_
  refine ⟨s1.heap.objs.size, [s1.heap.objs.size], _, _, H1, rfl, I1.kept (t' := s1.toks) fun b o e => Heap.get?_push_of_some _ e, turn_tuple a _, ⟨_, Heap.get?_push_size _ rfl, rfl, rfl⟩, fun b hb => ?_, q⟩
  have e : b = s1.heap.objs.size := by simpa using hb
  subst e
  exact I1.fpOk (Nat.le_refl _) (I1.hok.fresh (Nat.le_refl _))
theorem iter_str {x : Str} {t : Tok} (I1 : L2.Inv X pins σ H1 s1) (q : R (Its x) H1) : wpAny (model X.prog X.w) X.A (pyIter (.str x t)) (PIE X pins σ tg R) X.xe s1 := by
  cases ha : x.cps.all (· < 128)
  · exact wpAny_pyIter_wide ha (pi_one (tk := s1.toks) I1 _ (turn_str _ x t "str_iterator" (.inr rfl)) ⟨_, Heap.get?_push_size _ rfl, rfl, rfl⟩ q)
  · exact wpAny_pyIter_ascii ha (pi_one (tk := s1.toks) I1 _ (turn_str _ x t "str_ascii_iterator" (.inl rfl)) ⟨_, Heap.get?_push_size _ rfl, rfl, rfl⟩ q)
end
/-- for .. in a value -/
theorem pi_seq {M : Mo} {X : Cx} {N : List Str} {sc : Sco} {W : WX} {k : Nat} (g : Good M X N sc W k) {tg e : Expr} {a : E} (he : PE X e (tE M W fun Y => evE M.G (callS M.G k) Y a)) : PI X tg e (tI M W fun Y => evI M.G (callS M.G k) Y (.seq a)) := by
  refine ⟨fun pins s σ H R I h => ?_⟩
  obtain ⟨m, l, hh, rh, rl, q⟩ := h
  refine thn (he.run pins s σ H (fun x H1 => ∃ m1 h1 v xs, Ex m m1 ∧ Kp M.K H H1 ∧ RH M H1 m1 h1 ∧ RV M.K H1 m1 v x ∧ itemsOf h1 v = some xs ∧ LI M m1 H1 R xs (liveL v xs) h1) I (tE_in rh rl (fun _ _ z => z) q fun m1 H1 v w h1 e1 k1 rh1 rl1 rv1 ⟨xs, q1, q2⟩ => ⟨m1, h1, v, xs, e1, k1, rh1, rv1, q1, LI.mono e1 k1 _ _ _ q2⟩)) fun u s1 ⟨x, H1, I1, r1, q1⟩ => ?_
  obtain ⟨m1, h1, v, xs, e1, k1, rh1, rv, ei, q2⟩ := q1
  have go : ∀ J, Wk M m1 H1 xs (liveL v xs) J → R J H1 := fun J wk => q2 m1 H1 J (Ex.refl m1) (Kp.refl _ H1) rh1 wk
  cases v with
  | str z =>
    cases (show x = .str z from rv)
    obtain ⟨t, rfl⟩ := r1
    cases ei
    exact iter_str I1 (go _ wk_str)
  | tup zs =>
    obtain ⟨p, vs, rfl, e2, e3⟩ := rv
    cases r1
    cases ei
    exact iter_tup I1 (xs := vs) (by rw [g.hK]; exact e2) (by rw [g.hK]; exact go _ (wk_tup e2 e3))
  | ref b =>
    have e2 : lstOf h1 (.ref b) = some xs := ei
    obtain ⟨p, vs, rfl, e3, e4⟩ := lstOf_get rh1 rv e2
    cases r1
    exact iter_list I1 (xs := vs) (by rw [g.hK]; exact e3) (by rw [g.hK]; exact go _ (wk_list rv ⟨b, rfl⟩))
  | non => cases ei
  | bl _ => cases ei
  | int _ => cases ei

end Py

set_option Elab.async false
set_option linter.all false
set_option maxRecDepth 100000
set_option maxHeartbeats 4000000
/-! PySound5: expressions, what loops walk, targets. -/
namespace Py
open PySem PySem.Spec PyProof.Rows L2
section
variable {M : Mo} {k : Nat}
def LG (M : Mo) (m : List Addr) (H : Hp) (Q : L2.St → Hp → Prop) : Loc → PH → Prop := fun l' h' => ∀ (m' : List Addr) (H' : Hp) (σ' : L2.St), Ex m m' → Kp M.K H H' → RH M H' m' h' → RL M.K H' m' l' σ' → Q σ' H'
def tG (M : Mo) (d : PV → Loc → PH → (Loc → PH → Prop) → Prop) : TG := fun w σ H Q => ∃ m l h v, RH M H m h ∧ RL M.K H m l σ ∧ RV M.K H m v w ∧ d v l h (LG M m H Q)
def tGs (M : Mo) (d : List PV → Loc → PH → (Loc → PH → Prop) → Prop) : TGs := fun w σ H Q => ∃ m l h v, RH M H m h ∧ RL M.K H m l σ ∧ RVs M.K H m v w ∧ d v l h (LG M m H Q)
theorem LG.mono {m m1 : List Addr} {H H1 : Hp} {Q : L2.St → Hp → Prop} (e : Ex m m1) (k : Kp M.K H H1) : ∀ a b, LG M m H Q a b → LG M m1 H1 Q a b := fun a b q m' H' σ' e' k' r rl => q m' H' σ' (e.trans e') (k.trans k') r rl
theorem loc_of {dc : Bool} {X : Cx} {N : List Str} {sc : Sco} {W : WX} (g : Good M X N sc W k) (hc : dc = true → ∀ x, sc.lookup x = some .cell → X.fn x = true) {x : Str} (h : locB dc sc x = true) : L2.Loc X.env.scope x ∧ (X.fn x = true ∨ X.env.scope.names.lookup x = some .local) := by
  unfold locB at h
  unfold L2.Loc
  rw [g.sc]
  split at h
  · rename_i e; exact ⟨.inl e, .inr e⟩
  · rename_i e; exact ⟨.inr e, .inl (hc h x e)⟩
  · cases h
theorem RL.set {K : PySem.W.Frag} {H : Hp} {m : List Addr} {l : Py.Loc} {σ : L2.St} {i : Nat} {v : PV} {w : V} (r : RL K H m l σ) (rv : RV K H m v w) : RL K H m (l.set i (some v)) (σ.set i (some w)) := by
  refine ⟨by simp [r.1], fun j u e => ?_⟩
  by_cases h : j = i
  · subst h
    have hl := (List.getElem?_eq_some_iff.mp e).1
    rw [List.length_set] at hl
    rw [List.getElem?_set_self hl] at e
    cases e
    exact ⟨w, List.getElem?_set_self (by rw [← r.1]; exact hl), rv⟩
  · rw [List.getElem?_set_ne (Ne.symm h)] at e
    obtain ⟨z, e2, e3⟩ := r.2 j u e
    exact ⟨z, by rw [List.getElem?_set_ne (Ne.symm h)]; exact e2, e3⟩
theorem as_each {dc : Bool} {N : List Str} {sc : Sco} {t : T} {x : Expr} (h : mT M.toMe dc N sc t x = true) (env : Env) (r : List Expr) : assignEach (x :: r) env = (false, assign x env) :: assignEach r env := by
  cases x <;> first | rfl | (cases t <;> exact absurd h Bool.false_ne_true)
theorem as_len {dc : Bool} {N : List Str} {sc : Sco} (env : Env) : ∀ {ts : Ts} {xs : List Expr}, mTs M.toMe dc N sc ts xs = true → (assignEach xs env).length = xs.length ∧ (assignEach xs env).findIdx? (·.1) = none
  | .nil, [], _ => ⟨rfl, rfl⟩
  | .nil, _ :: _, h => absurd h Bool.false_ne_true
  | .cons _ _, [], h => absurd h Bool.false_ne_true
  | .cons t ts, x :: xs, h => by
    obtain ⟨h1, h2⟩ := ba h
    obtain ⟨e1, e2⟩ := as_len env h2
    rw [as_each h1 env]
    exact ⟨congrArg Nat.succ e1, by rw [List.findIdx?_cons, e2] <;> rfl⟩
theorem lenTs_of {dc : Bool} {N : List Str} {sc : Sco} : ∀ {ts : Ts} {xs : List Expr}, mTs M.toMe dc N sc ts xs = true → lenTs ts = xs.length
  | .nil, [], _ => rfl
  | .nil, _ :: _, h => absurd h Bool.false_ne_true
  | .cons _ _, [], h => absurd h Bool.false_ne_true
  | .cons t ts, x :: xs, h => congrArg Nat.succ (lenTs_of (ba h).2)

/-! ### names forgotten -/
theorem wipe_set {σ : L2.St} {i : Nat} {x : V} : ∀ {vs : List Nat}, i ∈ vs → wipe (σ.set i (some x)) vs = wipe σ vs
  | v :: vs, h => by
    by_cases hi : i ∈ vs
    · show (wipe (σ.set i (some x)) vs).set v none = (wipe σ vs).set v none
      rw [wipe_set hi]
    · have e : i = v := by
        rcases List.mem_cons.mp h with e | e
        · exact e
        · exact absurd e hi
      subst e
      have : ∀ (vs : List Nat) (σ : L2.St), i ∉ vs → wipe (σ.set i (some x)) vs = (wipe σ vs).set i (some x) := by
        intro vs
        induction vs with
        | nil => intro σ _; rfl
        | cons w r ih =>
          intro σ hn
          show (wipe (σ.set i (some x)) r).set w none = ((wipe σ r).set w none).set i (some x)
          rw [ih σ (fun z => hn (List.mem_cons_of_mem _ z)), List.set_comm _ _ (show i ≠ w from fun z => hn (by rw [z]; exact List.mem_cons_self ..))]
      show (wipe (σ.set i (some x)) vs).set i none = (wipe σ vs).set i none
      rw [this vs σ hi, List.set_set]
theorem wipe_none {σ : L2.St} {i : Nat} : ∀ {vs : List Nat}, i ∈ vs → (L2.wipe σ vs).set i none = L2.wipe σ vs
  | v :: vs, h => by
    show ((L2.wipe σ vs).set v none).set i none = (L2.wipe σ vs).set v none
    by_cases e : i = v
    · subst e; rw [List.set_set]
    · rw [List.set_comm _ _ (Ne.symm e), wipe_none ((List.mem_cons.mp h).resolve_left e)]
theorem wipe_sub {σ : L2.St} {vs : List Nat} : ∀ {ws : List Nat}, (∀ i ∈ ws, i ∈ vs) → L2.wipe (L2.wipe σ vs) ws = L2.wipe σ vs
  | [], _ => rfl
  | w :: ws, h => by
    show (L2.wipe (L2.wipe σ vs) ws).set w none = _
    rw [wipe_sub (fun i hi => h i (List.mem_cons_of_mem _ hi)), wipe_none (h w (List.mem_cons_self ..))]
theorem wipe_wipe {σ : L2.St} {vs : List Nat} : L2.wipe (L2.wipe σ vs) vs = L2.wipe σ vs := wipe_sub fun _ h => h
theorem RL.wipe {K : PySem.W.Frag} {H : Hp} {m : List Addr} {l : Py.Loc} {σ : L2.St} (r : RL K H m l σ) : ∀ vs : List Nat, RL K H m (wipeL l vs) (L2.wipe σ vs)
  | [] => r
  | v :: vs => by
    have ih := r.wipe vs
    refine ⟨by show ((wipeL l vs).set v none).length = ((L2.wipe σ vs).set v none).length; simp [ih.1], fun j u e => ?_⟩
    have e : ((wipeL l vs).set v none)[j]? = some (some u) := e
    by_cases h : j = v
    · subst h
      rw [List.getElem?_set] at e
      simp at e
    · rw [List.getElem?_set_ne (Ne.symm h)] at e
      obtain ⟨z, e2, e3⟩ := ih.2 j u e
      exact ⟨z, by show ((L2.wipe σ vs).set v none)[j]? = _; rw [List.getElem?_set_ne (Ne.symm h)]; exact e2, e3⟩
/-- a target of names: what is set is forgotten by vs -/
def LGn (M : Mo) (m : List Addr) (H : Hp) (vs : List Nat) (σ : L2.St) (Q : L2.St → Hp → Prop) : Py.Loc → PH → Prop := fun l' h' => ∀ (m' : List Addr) (H' : Hp) (σ' : L2.St), Ex m m' → Kp M.K H H' → RH M H' m' h' → RL M.K H' m' l' σ' → L2.wipe σ' vs = L2.wipe σ vs → Q σ' H'
def tGn (M : Mo) (vs : List Nat) (d : PV → Py.Loc → PH → (Py.Loc → PH → Prop) → Prop) : TG := fun w σ H Q => ∃ m l h v, RH M H m h ∧ RL M.K H m l σ ∧ RV M.K H m v w ∧ d v l h (LGn M m H vs σ Q)
def tGns (M : Mo) (vs : List Nat) (d : List PV → Py.Loc → PH → (Py.Loc → PH → Prop) → Prop) : TGs := fun w σ H Q => ∃ m l h v, RH M H m h ∧ RL M.K H m l σ ∧ RVs M.K H m v w ∧ d v l h (LGn M m H vs σ Q)
theorem pg_two {X : Cx} {es : List Expr} {kk n : Nat} {pos : Pos} {t : TGs} (hc : X.calm = true) (p : PGs X es t) (hn : (assignEach es X.env).length = n) (hst : (assignEach es X.env).findIdx? (·.1) = none) :
    PG X (.Tuple es kk pos) (fun v σ H Q => gTup X.K n t v σ H Q ∨ gUnl X.K n t v σ H Q) :=
  ⟨fun pins s σ H v u Q I r hw => hw.elim (fun q => (pg_tup hc p hn hst).run pins s σ H v u Q I r q) fun q => (pg_unl hc p hn hst).run pins s σ H v u Q I r q⟩
mutual
theorem sGn : ∀ (t : T) (X : Cx) (N : List Str) (sc : Sco) (W : WX) (Y : KX) (x : Expr) (vs : List Nat), Good M X N sc W k → tnB t = true → (∀ i ∈ tNs t, i ∈ vs) → mT M.toMe false N sc t x = true → PG X x (tGn M vs fun v => evG M.G (callS M.G k) Y t v)
  | .nm i, X, N, sc, W, Y, x, vs, g, ht, hv, hm => by
    cases x <;> first | exact absurd hm Bool.false_ne_true | skip
    obtain ⟨h1, h2⟩ := ba hm
    obtain ⟨l1, l2⟩ := loc_of g (fun z => absurd z Bool.false_ne_true) h2
    refine (pg_name (i := i) (by rw [g.hN]; exact g.nd) (by rw [g.hN]; exact of_decide_eq_true h1) l1 l2).wk fun w σ H Q q => ?_
    obtain ⟨m, l, h, v, rh, rl, rv, q⟩ := q
    exact q.2 m H _ (Ex.refl m) (Kp.refl _ H) rh (rl.set rv) (wipe_set (hv i (List.mem_singleton.mpr rfl)))
  | .tup ts, X, N, sc, W, Y, x, vs, g, ht, hv, hm => by
    cases x <;> first | exact absurd hm Bool.false_ne_true | skip
    rename_i xs kk pos
    have hm : mTs M.toMe false N sc ts xs = true := hm
    obtain ⟨a1, a2⟩ := as_len X.env hm
    refine (pg_two (n := xs.length) g.calm (sGns ts X N sc W Y xs vs g ht hv hm) a1 a2).wk fun w σ H Q q => ?_
    obtain ⟨m, l, h, v, rh, rl, rv, zs, es, el, q⟩ := q
    cases v with
    | tup ys =>
      cases (show ys = zs from Option.some.inj es)
      obtain ⟨p, ws, rfl, e1, e2⟩ := rv
      exact .inl ⟨p, ws, rfl, by rw [g.hK]; exact e1, by rw [← e2.len, el]; exact lenTs_of hm, m, l, h, _, rh, rl, e2, q⟩
    | ref a =>
      obtain ⟨p, ws, rfl, e1, e2⟩ := lstOf_get rh rv es
      exact .inr ⟨p, ws, rfl, by rw [g.hK]; exact e1, by rw [← e2.len, el]; exact lenTs_of hm, m, l, h, _, rh, rl, e2, q⟩
    | _ => cases es
  | .attr _ _, X, N, sc, W, Y, x, vs, g, ht, hv, hm => absurd ht Bool.false_ne_true
  | .sub _ _, X, N, sc, W, Y, x, vs, g, ht, hv, hm => absurd ht Bool.false_ne_true
theorem sGns : ∀ (ts : Ts) (X : Cx) (N : List Str) (sc : Sco) (W : WX) (Y : KX) (xs : List Expr) (vs : List Nat), Good M X N sc W k → tnsB ts = true → (∀ i ∈ tsNs ts, i ∈ vs) → mTs M.toMe false N sc ts xs = true → PGs X xs (tGns M vs fun v => evGs M.G (callS M.G k) Y ts v)
  | .nil, X, N, sc, W, Y, [], vs, g, ht, hv, hm => pgs_nil.wk fun w σ H Q q => by
    obtain ⟨m, l, h, v, rh, rl, rv, e, q⟩ := q
    subst e
    exact ⟨rv, q m H σ (Ex.refl m) (Kp.refl _ H) rh rl rfl⟩
  | .nil, X, N, sc, W, Y, _ :: _, vs, g, ht, hv, hm => absurd hm Bool.false_ne_true
  | .cons _ _, X, N, sc, W, Y, [], vs, g, ht, hv, hm => absurd hm Bool.false_ne_true
  | .cons t ts, X, N, sc, W, Y, x :: xs, vs, g, ht, hv, hm => by
    obtain ⟨h1, h2⟩ := ba hm
    obtain ⟨t1, t2⟩ := ba (show (tnB t && tnsB ts) = true from ht)
    refine (pgs_cons (sGn t X N sc W Y x vs g t1 (fun i hi => hv i (List.mem_append_left _ hi)) h1) (sGns ts X N sc W Y xs vs g t2 (fun i hi => hv i (List.mem_append_right _ hi)) h2) (by rw [as_each h1 X.env] <;> rfl)).wk fun w σ H Q q => ?_
    obtain ⟨m, l, h, v, rh, rl, rv, y, r, e, q⟩ := q
    subst e
    obtain ⟨w1, wr, rfl, r1, r2⟩ := rv
    refine ⟨w1, wr, rfl, m, l, h, y, rh, rl, r1, evG_mono (csle M k) (fun _ _ z => z) t y l h _ _ (fun l1 h1 q1 m1 H1 σ1 e1 k1 rh1 rl1 w1 => ?_) q⟩
    exact ⟨m1, l1, h1, r, rh1, rl1, r2.mono k1 e1, evGs_mono (csle M k) (fun _ _ z => z) ts r l1 h1 _ _ (fun l2 h2 q2 m2 H2 σ2 e2 k2 rh2 rl2 w2 => q2 m2 H2 σ2 (e1.trans e2) (k1.trans k2) rh2 rl2 (w2.trans w1)) q1⟩
end

/-! ### comprehensions -/
theorem Good.blk {X : Cx} {N : List Str} {sc : Sco} {W : WX} (g : Good M X N sc W k) (s : Shared) (H : Hp) {scope : Scope} (C : Addr) (cl : List (Str × Addr)) (fp : List Addr) (kd : scope.kind = .function) :
    Good M (X.blk s H scope (compEnvC scope cl C X.env) fp) N (relB scope sc) (fun _ _ _ _ => False) k where
  hN := g.hN
  nd := g.nd
  hK := g.hK
  sc := by
    show (relabel scope X.env).names = relB scope sc
    have e : ∀ n : Str, X.env.kindOf n = sc.lookup n := fun n => by show X.env.scope.names.lookup n = _; rw [g.sc]
    have f : (X.env.scope.kind == ScopeKind.function) = true := by rw [g.kd]; rfl
    unfold relabel relB
    simp only [e, f, Bool.and_true]
  calm := g.calm
  tk := fun u s' ⟨_, _, _, _, _, _, _, _, _, _, _, _, _, _, _, _, w⟩ => w.elim
  room := g.room
  gd := g.gd
  kd := kd
  glo := g.glo
  fns := g.fns
  cls := g.cls
  fng := g.fng
theorem blk_ok {X : Cx} {N : List Str} {sc : Sco} {W : WX} (g : Good M X N sc W k) {scope : Scope} {own : List (Str × Nat)} (h : blkB N sc scope own = true) : BlkOk X.N X.env.scope scope own := by
  have ok := blkOk_by h
  refine ⟨ok.kind, ok.uniq, by rw [g.hN]; exact ok.ix, fun y hy e => ?_, by rw [g.hN]; exact ok.own⟩
  rw [g.sc]
  exact ok.free y hy e
theorem own_ix (N : List Str) (t : T) : (ownOf N t).map (·.2) = tNs t := by
  unfold ownOf
  rw [List.map_map]
  exact List.map_id' _
theorem compL_live {live : PH → Prop} {d : Nat} {body : PV → PH → (Option PV → PH → Prop) → Prop} {fin : PH → Prop} : ∀ {xs : List PV} {h : PH}, compL live d body fin xs h → live h
  | [], _, q => q.1
  | _ :: _, _, q => q.1
def tOC (M : Mo) (W : WX) (d : DT) : TT := tT M W d
/-- a comprehension's reading -/
theorem lc_in {elt : E} {t : T} {it : I} {cond : OC} {W : WX} {σ : L2.St} {H : Hp} {Q : VK} (q : tE M W (fun Y => evE M.G (callS M.G k) Y (.lc elt t it cond)) σ H Q) :
    tLc (tI M W fun Y => evI M.G (callS M.G k) Y it) (tGn M (tNs t) fun v => evG M.G (callS M.G k) (fun _ _ => False) t v) (tT M (fun _ _ _ _ => False) fun Y => evC M.G (callS M.G k) Y cond) (tE M (fun _ _ _ _ => False) fun Y => evE M.G (callS M.G k) Y elt) (tNs t) σ H Q := by
  obtain ⟨m, l, h, rh, rl, q⟩ := q
  refine ⟨m, l, h, rh, rl, evI_mono (csle M k) (fun _ _ z => z) it l h _ _ (fun items live h1 cl m1 H1 J e1 k1 rh1 wk D hD => ?_) q⟩
  obtain ⟨G, Y, walk, hG, hY⟩ := wk.ex
  have rl1 := rl.mono k1 e1
  have len1 : m1.length = h1.length := rh1.len
  have kD : Kp M.K H1 (upd H1 D (.lst [])) := Kp.upd_new hD
  have nofalse : ∀ {σ m H} (x : XV) (h : PH), (fun _ _ => False : KX) x h → LX M (fun _ _ _ _ => False) σ m H x h := fun x h z => z.elim
  refine lc_it walk (fun i H' => ∃ m' h', Ex (m1 ++ [D]) m' ∧ Kp M.K (upd H1 D (.lst [])) H' ∧ RH M H' m' h' ∧ compL live h1.length _ _ (items.drop i) h') ⟨m1 ++ [D], _, Ex.refl _, Kp.refl _ _, rh1.new (o := .lst []) hD ⟨[], upd_same, rfl⟩ rfl, cl⟩ ?_ ?_ ?_
  · rintro i H' hi ⟨m', h', ex, kp, rh', c⟩
    exact hG m' H' h' ((Ex.app m1 D).trans ex) (kD.trans kp) rh' (compL_live c)
  · rintro i x H' H2 hi ⟨m', h', ex, kp, rh', c⟩ y
    have exm := (Ex.app m1 D).trans ex
    have kpm := kD.trans kp
    obtain ⟨v, ev, rh2, k2, rv⟩ := hY i m' H' h' x H2 exm kpm rh' (compL_live c) hi y
    have eI : items.drop i = v :: items.drop (i + 1) := by
      obtain ⟨hlt, e⟩ := List.getElem?_eq_some_iff.mp ev
      rw [List.drop_eq_getElem_cons hlt, e]
    rw [eI] at c
    obtain ⟨_, c⟩ := c
    refine ⟨m', wipeL l (tNs t), h', v, rh2, (rl1.mono (kpm.trans k2) exm).wipe (tNs t), rv, evG_mono (csle M k) (fun _ _ z => z) t v _ _ _ _ (fun l3 h3 c m3 H3 σ3 e3 k3 rh3 rl3 w3 => ⟨w3.trans wipe_wipe, ?_⟩) c⟩
    refine ⟨m3, l3, h3, rh3, rl3, evC_mono (csle M k) nofalse cond l3 h3 _ _ (fun b h4 c m4 H4 e4 k4 rh4 => ?_) c⟩
    cases b with
    | false => exact ⟨m4, h4, (ex.trans e3).trans e4, ((kp.trans k2).trans k3).trans k4, rh4, c⟩
    | true =>
      refine ⟨m4, l3, h4, rh4, rl3.mono k4 e4, evE_mono (csle M k) nofalse elt l3 h4 _ _ (fun y h5 c m5 H5 z e5 k5 rh5 rv5 => ?_) c⟩
      obtain ⟨acc, ea, hl, c⟩ := c
      have e15 := ((ex.trans e3).trans e4).trans e5
      have eD : m5[h1.length]? = some D := e15 _ _ (by rw [← len1]; simp)
      obtain ⟨ws, hw, rw_⟩ := rh5.obj _ _ _ ea eD
      have put := rh5.put (u := .lst (ws ++ [z])) (o := .lst (acc ++ [y])) ea eD rfl rfl ⟨ws ++ [z], upd_same, (rw_.app (RVs.one rv5)).mono (Kp.upd_old hw rfl) (Ex.refl m5) _ _⟩
      exact ⟨ws, hw, by rw [← rw_.len]; exact hl, m5, _, e15, ((((kp.trans k2).trans k3).trans k4).trans k5).trans put.2, put.1, c⟩
  · rintro H' ⟨m', h', ex, kp, rh', c⟩
    rw [List.drop_length] at c
    refine c.2 m' H' (.ref D) (e1.trans ((Ex.app m1 D).trans ex)) (k1.trans (kD.trans kp)) rh' ⟨D, ex _ _ (by rw [← len1]; simp), rfl⟩
/-! ### built-in methods -/
def rBmM (M : Mo) (f : BM) : V → List V → Hp → VK → Prop := fun x xs H Q => ∃ m h v vs, RH M H m h ∧ RV M.K H m v x ∧ RVs M.K H m vs xs ∧ bmV f v vs h (LQ M m H Q)
theorem LQ.put {m : List Addr} {H : Hp} {Q : VK} {h : PH} {v : PV} {w : V} {a : Nat} {p : Addr} {u : HO} {o o0 : PO} (q : LQ M m H Q v (h.set a o)) (r : RH M H m h) (e0 : h[a]? = some o0) (ep : m[a]? = some p) (n0 : isFrl o0 = false) (nf : isFrl o = false)
    (ho : Kp M.K H (upd H p u) → RO M (upd H p u) m o p) (rv : Kp M.K H (upd H p u) → RV M.K (upd H p u) m v w) : Q w (upd H p u) := by
  obtain ⟨u0, e3, n3⟩ := (r.obj a o0 p e0 ep).at n0
  have kk : Kp M.K H (upd H p u) := Kp.upd_old e3 n3
  obtain ⟨r2, _⟩ := r.put e0 ep n0 nf (ho kk)
  exact q m (upd H p u) w (Ex.refl m) kk r2 (rv kk)
theorem lst_here {m : List Addr} {H : Hp} {h : PH} {a : Nat} {x : V} {xs : List PV} (rh : RH M H m h) (rv : RV M.K H m (.ref a) x) (e : h[a]? = some (.lst xs)) : ∃ p vs, x = .ref p ∧ m[a]? = some p ∧ H p = some (.lst vs) ∧ RVs M.K H m xs vs := by
  obtain ⟨p, ep, rfl⟩ := rv
  obtain ⟨vs, e1, e2⟩ := rh.obj _ _ _ e ep
  exact ⟨p, vs, rfl, ep, e1, e2⟩
theorem RVs.rev {K : PySem.W.Frag} {H : Hp} {m : List Addr} : ∀ {xs : List PV} {vs : List V}, RVs K H m xs vs → RVs K H m xs.reverse vs.reverse
  | [], vs, h => by cases (show vs = [] from h); rfl
  | x :: xs, vs, h => by
    obtain ⟨v, r, rfl, a, b⟩ := h
    rw [List.reverse_cons, List.reverse_cons]
    exact (RVs.rev b).app (RVs.one a)
theorem RVs.dropLast {K : PySem.W.Frag} {H : Hp} {m : List Addr} {xs : List PV} {vs : List V} (h : RVs K H m xs vs) : RVs K H m xs.dropLast vs.dropLast := by
  rw [List.dropLast_eq_take, List.dropLast_eq_take, h.len]
  exact h.take _
def bmId : BM → String
  | .append => "list.append" | .extend => "list.extend" | .pop0 => "list.pop" | .reverse => "list.reverse" | .clear => "list.clear" | .pop1 => "list.pop" | .join => "str.join" | .split => "str.split" | .startswith => "str.startswith" | .isalnum => "str.isalnum" | .upper => "str.upper" | _ => "list.append"
theorem RVs.erase {K : PySem.W.Frag} {H : Hp} {m : List Addr} : ∀ {xs : List PV} {vs : List V} (i : Nat), RVs K H m xs vs → RVs K H m (xs.eraseIdx i) (vs.eraseIdx i)
  | [], vs, i, h => by cases (show vs = [] from h); rfl
  | x :: xs, vs, 0, h => by obtain ⟨v, r, rfl, a, b⟩ := h; exact b
  | x :: xs, vs, i + 1, h => by obtain ⟨v, r, rfl, a, b⟩ := h; exact ⟨v, _, rfl, a, RVs.erase i b⟩
theorem sBm {X : Cx} (hK : X.K = M.K) (f : BM) (n : Nat) (hb : bmB f n = true) : MtR X (bmId f) (rBmM M f) := by
  intro pins s σ H x xs v us Q I rx rxs h
  obtain ⟨m, h, w, ws, rh, rw_, rws, q⟩ := h
  cases f <;> first | (exfalso; revert hb; unfold bmB; cases n <;> (intro hb; cases hb); done) | skip
  all_goals (unfold bmV at q; split at q)
  all_goals first | exact q.elim | (rename_i h0; cases h0; done) | skip
  · obtain ⟨ys, e, hl, q⟩ := q
    obtain ⟨p, vs, rfl, ep, e1, e2⟩ := lst_here rh rw_ e
    obtain ⟨z, rfl, rz⟩ := rws.one_of
    exact mt_append pins s σ H _ _ v us Q I rx rxs ⟨p, vs, z, rfl, rfl, e1, by rw [← e2.len]; exact hl, q.put rh e ep rfl rfl (fun kk => ⟨_, upd_same, (e2.app (RVs.one rz)).mono kk (Ex.refl m) _ _⟩) (fun _ => rfl)⟩
  · obtain ⟨ys, zs, e, e', hl, q⟩ := q
    obtain ⟨p, vs, rfl, ep, e1, e2⟩ := lst_here rh rw_ e
    obtain ⟨z, rfl, rz⟩ := rws.one_of
    obtain ⟨p', vs', rfl, ep', e3, e4⟩ := lst_here rh rz e'
    exact mt_extend pins s σ H _ _ v us Q I rx rxs ⟨p, p', vs, vs', rfl, rfl, e1, e3, by rw [← e2.len, ← e4.len]; exact hl, q.put rh e ep rfl rfl (fun kk => ⟨_, upd_same, (e2.app e4).mono kk (Ex.refl m) _ _⟩) (fun _ => rfl)⟩
  · obtain ⟨ys, y, e, ey, q⟩ := q
    obtain ⟨p, vs, rfl, ep, e1, e2⟩ := lst_here rh rw_ e
    cases (show xs = [] from rws)
    rw [e2.len] at ey
    obtain ⟨z, ez, rz⟩ := e2.get ey
    exact mt_pop pins s σ H _ _ v us Q I rx rxs ⟨p, vs, z, rfl, rfl, e1, ez, q.put rh e ep rfl rfl (fun kk => ⟨_, upd_same, e2.dropLast.mono kk (Ex.refl m) _ _⟩) (fun kk => rz.mono kk (Ex.refl m) _ _)⟩
  · obtain ⟨ys, j, y, e, hi, hj, ey, q⟩ := q
    obtain ⟨p, vs, rfl, ep, e1, e2⟩ := lst_here rh rw_ e
    obtain ⟨z, rfl, rz⟩ := rws.one_of
    cases (show z = .int _ from rz)
    rw [e2.len] at hj
    obtain ⟨z, ez, rz⟩ := e2.get ey
    exact mt_popAt pins s σ H _ _ v us Q I rx rxs ⟨p, vs, _, j, z, rfl, rfl, e1, hi.1, hi.2, hj, ez, q.put rh e ep rfl rfl (fun kk => ⟨_, upd_same, (e2.erase j).mono kk (Ex.refl m) _ _⟩) (fun kk => rz.mono kk (Ex.refl m) _ _)⟩
  · obtain ⟨ys, e, q⟩ := q
    obtain ⟨p, vs, rfl, ep, e1, e2⟩ := lst_here rh rw_ e
    cases (show xs = [] from rws)
    exact mt_reverse pins s σ H _ _ v us Q I rx rxs ⟨p, vs, rfl, rfl, e1, q.put rh e ep rfl rfl (fun kk => ⟨_, upd_same, e2.rev.mono kk (Ex.refl m) _ _⟩) (fun _ => rfl)⟩
  · obtain ⟨ys, e, q⟩ := q
    obtain ⟨p, vs, rfl, ep, e1, e2⟩ := lst_here rh rw_ e
    cases (show xs = [] from rws)
    exact mt_clear pins s σ H _ _ v us Q I rx rxs ⟨p, vs, rfl, rfl, e1, q.put rh e ep rfl rfl (fun kk => ⟨[], upd_same, rfl⟩) (fun _ => rfl)⟩
  · obtain ⟨ys, e, hz, q⟩ := q
    cases (show x = .str _ from rw_)
    obtain ⟨z, rfl, rz⟩ := rws.one_of
    obtain ⟨p, zs, rfl, e1, e2⟩ := seqOf_get rh rz e
    cases e2.strs
    exact mt_join pins s σ H _ _ v us Q I rx rxs ⟨_, p, ys, rfl, rfl, by rw [hK]; exact e1, hz, q.at rh rfl⟩
  · obtain ⟨h1, h2, q⟩ := q
    cases (show x = .str _ from rw_)
    obtain ⟨z, rfl, rz⟩ := rws.one_of
    cases (show z = .str _ from rz)
    exact mt_split pins s σ H _ _ v us Q I rx rxs ⟨_, _, rfl, rfl, h1, h2, q.new rh rfl fun p hp => ⟨_, upd_same, RVs.of_strs⟩⟩
  · cases (show x = .str _ from rw_)
    obtain ⟨z, rfl, rz⟩ := rws.one_of
    cases (show z = .str _ from rz)
    exact mt_startswith pins s σ H _ _ v us Q I rx rxs ⟨_, _, rfl, rfl, q.at rh rfl⟩
  · cases (show x = .str _ from rw_)
    cases (show xs = [] from rws)
    exact mt_isalnum pins s σ H _ _ v us Q I rx rxs ⟨_, rfl, rfl, trivial, q.at rh rfl⟩
  · cases (show x = .str _ from rw_)
    cases (show xs = [] from rws)
    exact mt_upper pins s σ H _ _ v us Q I rx rxs ⟨_, rfl, rfl, q.1, q.2.at rh rfl⟩
theorem tyN_tyV {K : PySem.W.Frag} {m : List Addr} {H : Hp} {h : PH} {v : PV} {x : V} {T : String} (hK : K = M.K) (rh : RH M H m h) (rv : RV M.K H m v x) (e : tyN h v = some T) (hT : T = "list" ∨ T = "str") : tyV K T x H := by
  subst hK
  cases v with
  | str z => cases (show x = .str z from rv); cases e; rfl
  | ref a =>
    unfold tyN at e
    dsimp only at e
    have go : ∀ xs, lstOf h (.ref a) = some xs → T = "list" → tyV M.K T x H := fun xs e2 e3 => by
      obtain ⟨p, vs, rfl, e4, _⟩ := lstOf_get rh rv e2
      exact .inl ⟨e3, vs, e4⟩
    split at e
    · rename_i xs e2
      cases e
      exact go xs (by unfold lstOf; dsimp only; rw [e2]) rfl
    · rename_i xs e2
      cases e
      exact go xs (by unfold lstOf; dsimp only; rw [e2]) rfl
    · cases e
      rcases hT with h | h <;> exact absurd h (by decide)
    · cases e
  | tup xs => cases e; rcases hT with h | h <;> exact absurd h (by decide)
  | non => cases e; rcases hT with h | h <;> exact absurd h (by decide)
  | bl b => cases e; rcases hT with h | h <;> exact absurd h (by decide)
  | int b => cases e; rcases hT with h | h <;> exact absurd h (by decide)
theorem base_of {o : Expr} (h : baseB o = true) (name : Str) (env : Env) : attributeBase o name env (eval o env) = eval o env := by
  cases o with
  | Call f as ks p => cases f <;> first | rfl | (cases as <;> first | rfl | (cases ks <;> first | rfl | exact absurd h Bool.false_ne_true))
  | _ => rfl
/-- o.m(..) of a built-in type -/
theorem pe_bmM {X : Cx} {N : List Str} {sc : Sco} {W : WX} (g : Good M X N sc W k) {f : BM} {o : E} {es : Es} {y : Expr} {xs : List Expr} {name : Str} {p q : Pos} (hb : bmB f xs.length = true) (hn : bmNm f = name) (hl : (p.endLine == q.line) = true) (hy : baseB y = true)
    (ho : PE X y (tE M W fun Y => evE M.G (callS M.G k) Y o)) (hm : mEs M.toMe N sc es xs = true) (ha : PA X xs (tA M W fun Y => evEs M.G (callS M.G k) Y es)) :
    PE X (.Call (.Attribute y name p) xs [] q) (tE M W fun Y => evE M.G (callS M.G k) Y (.bm f o es)) := by
  have slot : PlainAttrs (bmT f) ∧ Slot (bmT f) name (bmId f) ∧ typeOf (.builtin (bmId f)) = pure (.type "method_descriptor") ∧ (bmT f = "list" ∨ bmT f = "str") := by
    subst hn
    cases f <;> first | (exfalso; revert hb; unfold bmB; generalize xs.length = n; cases n <;> (intro hb; cases hb); done) | skip
    · exact ⟨PySem.F.plainAttrs_list, PySem.F.slot_list_append, PySem.F.type_list_append, .inl rfl⟩
    · exact ⟨PySem.F.plainAttrs_list, PySem.F.slot_list_extend, PySem.F.type_list_extend, .inl rfl⟩
    · exact ⟨PySem.F.plainAttrs_list, PySem.F.slot_list_pop, PySem.F.type_list_pop, .inl rfl⟩
    · exact ⟨PySem.F.plainAttrs_list, PySem.F.slot_list_pop, PySem.F.type_list_pop, .inl rfl⟩
    · exact ⟨PySem.F.plainAttrs_list, PySem.F.slot_list_reverse, PySem.F.type_list_reverse, .inl rfl⟩
    · exact ⟨PySem.F.plainAttrs_list, PySem.F.slot_list_clear, PySem.F.type_list_clear, .inl rfl⟩
    · exact ⟨PySem.F.plainAttrs_str, PySem.F.slot_str_join, PySem.F.type_str_join, .inr rfl⟩
    · exact ⟨PySem.F.plainAttrs_str, PySem.F.slot_str_split, PySem.F.type_str_split, .inr rfl⟩
    · exact ⟨PySem.F.plainAttrs_str, PySem.F.slot_str_startswith, PySem.F.type_str_startswith, .inr rfl⟩
    · exact ⟨PySem.F.plainAttrs_str, PySem.F.slot_str_isalnum, PySem.F.type_str_isalnum, .inr rfl⟩
    · exact ⟨PySem.F.plainAttrs_str, PySem.F.slot_str_upper, PySem.F.type_str_upper, .inr rfl⟩
  obtain ⟨s1, s2, s3, s4⟩ := slot
  match xs, es, hb, hm, ha with
  | [], .nil, hb, hm, ha =>
    refine (pe_bm0 s1 s2 s3 (sBm (M := M) g.hK f 0 hb) ho (base_of hy name X.env) hl).wk fun σ H Q q => ?_
    obtain ⟨m, l, h, rh, rl, q⟩ := q
    refine tE_in rh rl (fun _ _ z => z) q fun m1 H1 v w h1 e1 k1 rh1 rl1 rv1 q1 => ?_
    exact ⟨tyN_tyV g.hK rh1 rv1 q1.1 s4, m1, h1, v, [], rh1, rv1, rfl, bmV_mono (LQ.mono e1 k1) q1.2⟩
  | [z], .cons a .nil, hb, hm, ha =>
    have hz := star_of (ba (show (mE M.toMe N sc a z && mEs M.toMe N sc .nil []) = true from hm)).1 X.env []
    refine (pe_bm s1 s2 s3 (sBm (M := M) g.hK f 1 hb) ho ha (base_of hy name X.env) (by rw [hz] <;> rfl) hl hz rfl).wk fun σ H Q q => ?_
    obtain ⟨m, l, h, rh, rl, q⟩ := q
    refine tE_in rh rl (fun _ _ z => z) q fun m1 H1 v w h1 e1 k1 rh1 rl1 rv1 q1 => ?_
    refine ⟨tyN_tyV g.hK rh1 rv1 q1.1 s4, tA_in rh1 rl1 (LX.mono e1 k1) q1.2 fun m2 H2 u w2 h2 e2 k2 rh2 rl2 rv2 q2 => ?_⟩
    exact ⟨m2, h2, v, u, rh2, rv1.mono k2 e2, rv2, bmV_mono (LQ.mono (e1.trans e2) (k1.trans k2)) q2⟩
  | [], .cons _ _, hb, hm, ha => exact absurd hm Bool.false_ne_true
  | _ :: _, .nil, hb, hm, ha => exact absurd hm Bool.false_ne_true
  | [_], .cons _ (.cons _ _), hb, hm, ha => exact absurd (ba hm).2 Bool.false_ne_true
  | _ :: _ :: r, .cons _ es, hb, hm, ha =>
    exfalso
    have : ∀ n, bmB f (n + 2) = false := fun n => by cases f <;> rfl
    rw [show (List.length (_ :: _ :: r)) = r.length + 2 from rfl, this] at hb
    exact Bool.false_ne_true hb
theorem pts_wk {X : Cx} {e : List Expr} {t t' : TT} (p : PTs X e t) (h : ∀ σ H Q, t' σ H Q → t σ H Q) : PTs X e t' := ⟨fun pins s σ H Q I q => p.run pins s σ H Q I (h _ _ _ q)⟩
theorem fold_of {iter : Expr} (h : notSet iter = true) (env : Env) : ∀ x, foldedSetIterable iter env x = pure x := by
  cases iter <;> first | (intro _; rfl) | exact absurd h Bool.false_ne_true
theorem lcp {X : Cx} {N : List Str} {sc : Sco} {W : WX} (g : Good M X N sc W k) {elt : E} {t : T} {it : I} {cond : OC} {tg iter x' : Expr} {ifs : List Expr} {scope : Scope} {pos : Pos} (ht : tnB t = true) (hb : blkB N sc scope (ownOf N t) = true)
    (hi : PI X tg iter (tI M W fun Y => evI M.G (callS M.G k) Y it) ∧ notSet iter = true) (hg : mT M.toMe false N (relB scope sc) t tg = true)
    (hc : ∀ (X' : Cx) (W' : WX), Good M X' N (relB scope sc) W' k → PTs X' ifs (tT M W' fun Y => evC M.G (callS M.G k) Y cond)) (he : ∀ (X' : Cx) (W' : WX), Good M X' N (relB scope sc) W' k → PE X' x' (tE M W' fun Y => evE M.G (callS M.G k) Y elt)) :
    PE X (.ListComp x' [⟨tg, iter, ifs, 0⟩] scope pos) (tE M W fun Y => evE M.G (callS M.G k) Y (.lc elt t it cond)) := by
  have ok := blk_ok g hb
  have kd : scope.kind = .function := ok.kind
  have p := pe_lc (pos := pos) (te := tE M (fun _ _ _ _ => False) fun Y => evE M.G (callS M.G k) Y elt) g.calm (by rw [g.hN]; exact g.nd) hi.1 ok (fun s H C cl fp => sGn t _ N (relB scope sc) _ (fun _ _ => False) tg (tNs t) (g.blk s H C cl fp kd) ht (fun _ h => h) hg)
    (fun s H C cl fp => hc _ _ (g.blk s H C cl fp kd)) (fun s H C cl fp => he _ _ (g.blk s H C cl fp kd)) (fold_of hi.2 X.env)
  rw [own_ix] at p
  exact p.wk fun σ H Q q => lc_in q
theorem blt_in {x : Str} (h : x = "range" ∨ x = "enumerate" ∨ x = "zip" ∨ x = "reversed") : x ∈ bltNames := by
  rcases h with rfl | rfl | rfl | rfl <;> (unfold bltNames; simp)
/-- a dict -/
theorem dic_ty {m : List Addr} {H : Hp} {h : PH} {v : PV} {x : V} (rh : RH M H m h) (rv : RV M.K H m v x) (e : tyN h v = some "dict") : ∃ p, x = .ref p ∧ ∃ ks, H p = some (.dK ks) := by
  cases v with
  | ref a =>
    obtain ⟨p, ep, rfl⟩ := rv
    unfold tyN at e
    dsimp only at e
    split at e
    · exact absurd (Option.some.inj e) (by decide)
    · exact absurd (Option.some.inj e) (by decide)
    · rename_i kvs e2
      obtain ⟨ks, e3, _⟩ := rh.obj _ _ _ e2 ep
      exact ⟨p, rfl, ks, e3⟩
    · cases e
  | non => exact absurd (Option.some.inj e) (by decide)
  | bl b => exact absurd (Option.some.inj e) (by decide)
  | int b => exact absurd (Option.some.inj e) (by decide)
  | str b => exact absurd (Option.some.inj e) (by decide)
  | tup b => exact absurd (Option.some.inj e) (by decide)
/-- C(..) -/
theorem pe_mkG {X : Cx} {N : List Str} {sc : Sco} {W : WX} (g : Good M X N sc W k) {c : Nat} {cd : CD} (hc : M.G.cls c = some cd) (nbr : cd.bare = false) {p pos : Pos} {es : Es} {xs : List Expr} (hg : glB sc (M.nm c) = true) (hm : mEs M.toMe N sc es xs = true)
    (ha : PA X xs (tA M W fun Y => evEs M.G (callS M.G k) Y es)) : PE X (.Call (.Name (M.nm c) p) xs [] pos) (tE M W fun Y => evE M.G (callS M.G k) Y (.mk c es)) := by
  obtain ⟨g1, g2⟩ := gl_of g hg
  have ok := g.cls c cd hc
  have kp : PySem.W.keepIn X.K (.ref (M.ca c)) = true := by rw [g.hK]; exact (ok.mak nbr).kp
  have mk : Mk X.K (M.ca c) (M.fa cd.init) := by rw [g.hK]; exact ok.mak nbr
  obtain ⟨d, hd⟩ := Option.isSome_iff_exists.mp (ok.ini nbr)
  have run : ∀ {pins : List (Addr × Obj)} {σ : L2.St} {H H1 : Hp} {s : Shared} {Q : VK} {us : List Value} {ws : List V} {vs : List PV} {m m1 : List Addr} {h1 : PH}, L2.Inv X pins σ H1 s → Vals ws us → RH M H1 m1 h1 → RVs M.K H1 m1 vs ws →
      callS M.G k (.mk c) vs h1 (LQ M m1 H1 Q) (LX M W σ m1 H1) → wpAny (model X.prog X.w) X.A (call (.ref (M.ca c)) us) (EP X pins σ Q) X.xe s := by
    intro pins σ H H1 s Q us ws vs m m1 h1 I r rh rv q
    cases hk : k with
    | zero => subst hk; exact (show False from q).elim
    | succ j =>
      subst hk
      obtain ⟨cd', hc', q⟩ := q
      rw [hc] at hc'; cases hc'
      obtain ⟨fd, ps, F, _, D⟩ := (g.fns j (Nat.le_succ j) cd.init d hd).ex
      have F' : FnG X.prog X.w X.K X.mg X.base (L2.CX X.prog X.w) j (M.fa cd.init) fd ps (spF M j cd.init d.np) := by rw [g.hK]; exact F
      have len := rv.len
      have q0 := q
      cases j with
      | zero => exact (show False from q).elim
      | succ i =>
        obtain ⟨d', hd', l1, l2, _⟩ := q0
        rw [hd] at hd'; cases hd'
        obtain ⟨dvs, ds, hv, hb, hr⟩ := D (vs.length + 1) l2 (by have z := fill_len (dfl := d.dfl) (vs := .ref h1.length :: vs) (n := d.np); rw [List.length_cons] at z; exact z.symm.trans l1)
        refine run_makeG (dvs := dvs) (E := WE W σ) mk F' g.gd g.room (by rw [g.hK]; exact hb) hv (passAt g.tk σ) I r fun x dx hx hdx ne => ?_
        have hx2 : upd H1 dx (.own x) x = none := by rw [upd_ne (Ne.symm ne)]; exact hx
        have rh2 : RH M (upd H1 dx (.own x)) m1 h1 := rh.tup hdx
        have rh3 : RH M (upd (upd H1 dx (.own x)) x (.ins (M.ca c) dx [])) (m1 ++ [x]) (h1 ++ [.ins c []]) := rh2.new (o := .ins c []) hx2 ⟨dx, [], cd, upd_same, hc, fun f _ => trivial, rfl, fun s hs => by cases hs⟩ rfl
        have kk : Kp M.K H1 (upd (upd H1 dx (.own x)) x (.ins (M.ca c) dx [])) := (Kp.upd_new hdx).trans (Kp.upd_new hx2)
        have ex := Ex.app m1 x
        have me : (m1 ++ [x])[h1.length]? = some x := by rw [← rh.len]; simp
        refine ⟨m1 ++ [x], h1 ++ [.ins c []], fill d.dfl (.ref h1.length :: vs) d.np, rh3, ?_, l1, ?_⟩
        · refine (show RVs M.K _ _ (.ref h1.length :: (vs ++ d.dfl.drop (d.dfl.length - (d.np - (vs.length + 1))))) _ from ⟨_, _, rfl, ⟨x, me, rfl⟩, (rv.mono kk ex).app (hr _ _)⟩)
        · have e0 : fill d.dfl (fill d.dfl (.ref h1.length :: vs) d.np) d.np = fill d.dfl (.ref h1.length :: vs) d.np := by
            have z : d.np - (fill d.dfl (.ref h1.length :: vs) d.np).length = 0 := by omega
            show fill d.dfl (.ref h1.length :: vs) d.np ++ d.dfl.drop (d.dfl.length - (d.np - (fill d.dfl (.ref h1.length :: vs) d.np).length)) = _
            rw [z]; simp
          have q1 : callS M.G (i + 1) (.fn cd.init) (fill d.dfl (.ref h1.length :: vs) d.np) (h1 ++ [.ins c []]) (fun v h' => v = .non ∧ LQ M m1 H1 Q (.ref h1.length) h') (LX M W σ m1 H1) := by
            obtain ⟨d', hd', a1, a2, q⟩ := q
            rw [hd] at hd'; cases hd'
            exact ⟨d, hd, by rw [e0]; exact l1, Nat.le_of_eq l1, by rw [e0]; exact q⟩
          refine callS_mono (fun v h' q2 m' H' w e' k' r' rv' => ?_) (LX.mono ex kk) q1
          obtain ⟨rfl, q2⟩ := q2
          exact ⟨rv', q2 m' H' (.ref x) (ex.trans e') (kk.trans k') r' ⟨x, e' _ _ me, rfl⟩⟩
  refine ⟨fun pins s σ H Q I h => ?_⟩
  have h' : tA M W (fun Y => evEs M.G (callS M.G k) Y es) σ H fun ws H1 => ∃ m1 h1 vs, RH M H1 m1 h1 ∧ RVs M.K H1 m1 vs ws ∧ callS M.G k (.mk c) vs h1 (LQ M m1 H1 Q) (LX M W σ m1 H1) := by
    obtain ⟨m, l, h, rh, rl, q⟩ := h
    exact tA_in rh rl (fun _ _ z => z) q fun m1 H1 v w h1 e1 k1 rh1 rl1 rv1 q1 => ⟨m1, h1, v, rh1, rv1, callS_mono (LQ.mono e1 k1) (LX.mono e1 k1) q1⟩
  refine wpAny_Call_Name_kw (ld_glob I g1 ok.glob ?_ g2)
  cases xs with
  | nil =>
    have h2 : ∃ m1 h1 vs, RH M H m1 h1 ∧ RVs M.K H m1 vs [] ∧ callS M.G k (.mk c) vs h1 (LQ M m1 H Q) (LX M W σ m1 H) := by
      cases es with
      | nil => obtain ⟨m, l, h, rh, rl, q⟩ := h'; exact q m H [] (Ex.refl m) (Kp.refl _ H) rh rfl
      | cons _ _ => exact absurd hm Bool.false_ne_true
    obtain ⟨m1, h1, vs, rh, rv, q⟩ := h2
    exact PySem.W.callWith_K0 I.kIn kp (run (H := H) (m := m1) I .nil rh rv q)
  | cons y ys =>
    obtain ⟨s1, s2⟩ := star_plain2 X.env pos hm
    refine PySem.W.callWith_K (h₀ := X.base) I.ok.mod.kin kp (thn (ha.run pos pins s σ H _ I h') fun us s1 ⟨ws, H1, I1, r, m1, h1, vs, rh, rv, q⟩ => ⟨I1.kIn, run (H := H) (m := m1) I1 r rh rv q⟩) s1 s2
theorem rvs_ints {K : PySem.W.Frag} {H : Hp} {m : List Addr} : ∀ (l : List Nat), RVs K H m (l.map fun k => PV.int (0 + (k : Nat))) (l.map fun i => V.int (0 + (i : Nat)))
  | [] => rfl
  | x :: r => ⟨_, _, rfl, rfl, rvs_ints r⟩
/-- C() of a class without __init__ -/
theorem run_bare {X : Cx} {pins : List (Addr × Obj)} {σ : L2.St} {H : Hp} {s : Shared} {Q : VK} {Ca : Addr} (B : Bare X.K Ca) (I : L2.Inv X pins σ H s)
    (h : ∀ x dx, H x = none → H dx = none → dx ≠ x → Q (.ref x) (upd (upd H dx (.own x)) x (.ins Ca dx []))) : wpAny (model X.prog X.w) X.A (call (.ref Ca) []) (EP X pins σ Q) X.xe s := by
  have q := h (s.heap.objs.size + 1) s.heap.objs.size (I.hok.fresh (Nat.le_succ _)) (I.hok.fresh (Nat.le_refl _)) (Nat.ne_of_lt (Nat.lt_succ_self _))
  have J := Inv.made (C := Ca) I
  have ho : ((s.heap.push PySem.W.emptyDict).push (PySem.W.instObj Ca s.heap.objs.size)).get? (s.heap.objs.size + 1) = some (PySem.W.instObj Ca s.heap.objs.size) := by
    have z := Heap.get?_push_size (s.heap.push PySem.W.emptyDict) (o := PySem.W.instObj Ca s.heap.objs.size) rfl
    rwa [Heap.size_push] at z
  refine wpAny_call (make_map0 I.kIn B.makes B.init (fun self => PySem.W.Looks.of_pure (PySem.W.oi_bind _)) ?_)
  have t1 : PySem.W.Looks (model X.prog X.w) _ (typeOf (.ref (s.heap.objs.size + 1))) (.ref Ca) := NwA.type_at ho rfl
  have t2 : PySem.W.Looks (model X.prog X.w) _ (isInstance (.ref (s.heap.objs.size + 1)) (.type "object")) true := t1.andThen (PySem.W.looks_mroIn J.kIn B.top)
  refine codeAny_call_builtin PySem.W.oi_plain PySem.W.entry_oi (@PySem.W.check_slot (model X.prog X.w) _ _ _ "object.__init__" "object" "__init__" (.ref (s.heap.objs.size + 1)) [] [] _ PySem.W.oi_kind PySem.W.oi_split t2 (NwA.oi_args_any (.ref (s.heap.objs.size + 1)) [] []) ?_)
  rw [PySem.W.oi_run]
  exact wpAny_pure (And.intro rfl ⟨.ref (s.heap.objs.size + 1), _, J, rfl, q⟩)
theorem pe_mk0G {X : Cx} {N : List Str} {sc : Sco} {W : WX} (g : Good M X N sc W k) {c : Nat} {cd : CD} (hc : M.G.cls c = some cd) (hb : cd.bare = true) {p pos : Pos} (hg : glB sc (M.nm c) = true) :
    PE X (.Call (.Name (M.nm c) p) [] [] pos) (tE M W fun Y => evE M.G (callS M.G k) Y (.mk0 c)) := by
  obtain ⟨g1, g2⟩ := gl_of g hg
  have ok := g.cls c cd hc
  have B : Bare X.K (M.ca c) := by rw [g.hK]; exact ok.bar hb
  refine ⟨fun pins s σ H Q I h => ?_⟩
  refine wpAny_Call_Name_kw (ld_glob I g1 ok.glob ?_ g2)
  refine PySem.W.callWith_K0 I.kIn B.kp (run_bare B I fun x dx hx hdx ne => ?_)
  obtain ⟨m, l, h0, rh, rl, cd', hc', _, q⟩ := h
  have hx2 : upd H dx (.own x) x = none := by rw [upd_ne (Ne.symm ne)]; exact hx
  have rh2 : RH M (upd H dx (.own x)) m h0 := rh.tup hdx
  have rh3 : RH M (upd (upd H dx (.own x)) x (.ins (M.ca c) dx [])) (m ++ [x]) (h0 ++ [.ins c []]) := rh2.new (o := .ins c []) hx2 ⟨dx, [], cd, upd_same, hc, fun f _ => trivial, rfl, fun s hs => by cases hs⟩ rfl
  have kk : Kp M.K H (upd (upd H dx (.own x)) x (.ins (M.ca c) dx [])) := (Kp.upd_new hdx).trans (Kp.upd_new hx2)
  exact q _ _ _ (Ex.app m x) kk rh3 ⟨x, by rw [← rh.len]; simp, rfl⟩
/-- C(.., k = v) -/
theorem pe_mkNG {X : Cx} {N : List Str} {sc : Sco} {W : WX} (g : Good M X N sc W k) {c : Nat} {cd : CD} (hc : M.G.cls c = some cd) {kn : Str} (hk : kwB M.toMe c kn = true) {p pos kp : Pos} {es : Es} {e : E} {y0 z : Expr} {ys : List Expr} (hg : glB sc (M.nm c) = true) (hm : mEs M.toMe N sc es (y0 :: ys) = true)
    (ha : PA X (y0 :: ys) (tA M W fun Y => evEs M.G (callS M.G k) Y es)) (he : PE X z (tE M W fun Y => evE M.G (callS M.G k) Y e)) : PE X (.Call (.Name (M.nm c) p) (y0 :: ys) [⟨some kn, z, kp⟩] pos) (tE M W fun Y => evE M.G (callS M.G k) Y (.mkK c es e)) := by
  obtain ⟨g1, g2⟩ := gl_of g hg
  have ok := g.cls c cd hc
  have nbr : cd.bare = false := by
    unfold kwB at hk
    rw [hc] at hk
    dsimp only at hk
    cases hd : M.toMe.G.fn cd.init with
    | none => rw [hd] at hk; cases hk
    | some d => rw [hd] at hk; simpa using (ba hk).2
  have kpp : PySem.W.keepIn X.K (.ref (M.ca c)) = true := by rw [g.hK]; exact (ok.mak nbr).kp
  have mk : Mk X.K (M.ca c) (M.fa cd.init) := by rw [g.hK]; exact ok.mak nbr
  obtain ⟨d, hd⟩ := Option.isSome_iff_exists.mp (ok.ini nbr)
  have hkw : d.kw.map M.nm = some kn := by
    unfold kwB at hk
    rw [hc] at hk
    dsimp only at hk
    rw [hd] at hk
    exact of_decide_eq_true (ba hk).1
  obtain ⟨kx, ekx, ekn⟩ := Option.map_eq_some_iff.mp hkw
  obtain ⟨s1, s2⟩ := star_plain2 X.env pos hm
  have hmg : X.mg (M.nm c) = some (.ref (M.ca c)) := ok.glob
  refine ⟨fun pins s σ H Q I h => ?_⟩
  obtain ⟨m, l, h0, rh, rl, q⟩ := h
  refine wpAny_Call_Name_kw (ld_glob I g1 hmg ?_ g2)
  refine PySem.W.callWith_KW (h₀ := X.base) I.ok.mod.kin kpp (by rfl) (thn (ha.run pos pins s σ H (fun vs H1 => (tCons (tE M W fun Y => evE M.G (callS M.G k) Y e) tNil) σ H1 fun zs H2 => ∃ m2 h2 pvs pz zv, Ex m m2 ∧ Kp M.K H H2 ∧ RH M H2 m2 h2 ∧ RL M.K H2 m2 l σ ∧ RVs M.K H2 m2 pvs vs ∧ zs = [zv] ∧ RV M.K H2 m2 pz zv ∧
      ∃ cd d, M.G.cls c = some cd ∧ M.G.fn cd.init = some d ∧ d.kw.isSome = true ∧ pvs.length + 2 ≤ d.np ∧ d.np - 2 - pvs.length ≤ d.dfl.length - 1 ∧
        callS M.G k (.mk c) (pvs ++ d.dfl.dropLast.drop (d.dfl.length - 1 - (d.np - 2 - pvs.length)) ++ [pz]) h2 (LQ M m H Q) (LX M W σ m H)) I (tA_in rh rl (fun _ _ z => z) q fun m1 H1 v w h1 e1 k1 rh1 rl1 rv1 q1 => ?_)) fun us s1 ⟨vs, H1, I1, r, q⟩ => ?_) (by rw [show (backTo pos (starEach (y0 :: ys) X.env)).any (·.1) = false by rw [s1]; exact s2]; rfl) s1
  · exact tE_in rh1 rl1 (LX.mono e1 k1) q1 fun m2 H2 u w2 h2 e2 k2 rh2 rl2 rv2 q2 => ⟨m2, h2, v, u, w2, e1.trans e2, k1.trans k2, rh2, rl2, rv1.mono k2 e2, rfl, rv2, q2⟩
  · refine thn ((pk_cons he pk_nil).run pos pins s1 σ H1 _ I1 q) fun ws s2 ⟨zs, H2, I2, rz, m2, h2, pvs, pz, zv, e2, k2, rh2, rl2, rvs, ezs, rz2, cd', d', hc', hd', _, n1, n2, q2⟩ => ⟨I2.kIn, ?_⟩
    subst ezs
    rw [hc] at hc'; cases hc'
    rw [hd] at hd'; cases hd'
    show wpAny _ _ (call (.ref (M.ca c)) us ([kn].zip ws)) _ _ _
    have vl := rvs.len
    cases hk2 : k with
    | zero => subst hk2; exact (show False from q2).elim
    | succ j =>
      subst hk2
      obtain ⟨cd', hc', q2⟩ := q2
      rw [hc] at hc'; cases hc'
      obtain ⟨fd, ps, F, ⟨_, KW⟩, D⟩ := (g.fns j (Nat.le_succ j) cd.init d hd).ex
      have F' : FnG X.prog X.w X.K X.mg X.base (L2.CX X.prog X.w) j (M.fa cd.init) fd ps (spF M j cd.init d.np) := by rw [g.hK]; exact F
      obtain ⟨gg, gV, mid, kb, gv, rmid⟩ := KW kx ekx (vs.length + 1) (by omega) (by omega)
      rw [ekn] at kb
      refine run_makeNG (E := WE W σ) (n := vs.length) (ks := [kn]) mk F' g.gd g.room (by rw [g.hK]; exact kb) (passAt g.tk σ) I2 r rz rfl rfl fun x dx hx hdx ne => ?_
      have hx2 : upd H2 dx (.own x) x = none := by rw [upd_ne (Ne.symm ne)]; exact hx
      have rh3 : RH M (upd H2 dx (.own x)) m2 h2 := rh2.tup hdx
      have rh4 : RH M (upd (upd H2 dx (.own x)) x (.ins (M.ca c) dx [])) (m2 ++ [x]) (h2 ++ [.ins c []]) := rh3.new (o := .ins c []) hx2 ⟨dx, [], cd, upd_same, hc, fun f _ => trivial, rfl, fun s hs => by cases hs⟩ rfl
      have kk : Kp M.K H2 (upd (upd H2 dx (.own x)) x (.ins (M.ca c) dx [])) := (Kp.upd_new hdx).trans (Kp.upd_new hx2)
      have ex := Ex.app m2 x
      have me : (m2 ++ [x])[h2.length]? = some x := by rw [← rh2.len]; simp
      rw [gv (.ref x :: vs) zv rfl]
      have rm := rmid (upd (upd H2 dx (.own x)) x (.ins (M.ca c) dx [])) (m2 ++ [x])
      rw [show d.np - 1 - (vs.length + 1) = d.np - 2 - pvs.length by omega] at rm
      refine ⟨m2 ++ [x], h2 ++ [.ins c []], .ref h2.length :: (pvs ++ d.dfl.dropLast.drop (d.dfl.length - 1 - (d.np - 2 - pvs.length)) ++ [pz]), rh4, ?_, ?_, ?_⟩
      · exact (show RVs M.K _ _ (.ref h2.length :: (pvs ++ d.dfl.dropLast.drop (d.dfl.length - 1 - (d.np - 2 - pvs.length)) ++ [pz])) (V.ref x :: (vs ++ mid ++ [zv])) from ⟨_, _, rfl, ⟨x, me, rfl⟩, ((rvs.mono kk ex).app rm).app (RVs.one (rz2.mono kk ex _ _))⟩)
      · simp only [List.length_cons, List.length_append, List.length_drop, List.length_dropLast, List.length_nil]; omega
      · refine callS_mono (fun v h' q3 m' H' w e' k' r' rv' => ?_) (fun v h' q3 => LX.mono (e2.trans ex) (k2.trans kk) v h' q3) q2
        obtain ⟨rfl, q3⟩ := q3
        exact ⟨rv', q3 m' H' (.ref x) ((e2.trans ex).trans e') ((k2.trans kk).trans k') r' ⟨x, e' _ _ me, rfl⟩⟩
/-- the values of a written dict -/
def LKs (M : Mo) (m : List Addr) (H : Hp) (ks : List Str) (R : List (V × V) → Hp → Prop) : List PV → PH → Prop := fun xs h' => ∀ (m' : List Addr) (H' : Hp) (ws : List V), Ex m m' → Kp M.K H H' → RH M H' m' h' → RVs M.K H' m' xs ws → R ((ks.map V.str).zip ws) H'
theorem zip_kv : ∀ (ks : List Str) (zs : List V), (ks.map V.str).zip zs = ((ks.zip zs).map fun kv => ((Sum.inr kv.1 : Key), kv.2)).map fun kv => (kV kv.1, kv.2)
  | [], _ => rfl
  | _ :: _, [] => rfl
  | k :: ks, z :: zs => by
    show (V.str k, z) :: (ks.map V.str).zip zs = (V.str k, z) :: _
    rw [zip_kv ks zs]; rfl
theorem merge_of {K : PySem.W.Frag} {H : Hp} {m : List Addr} : ∀ (ks : List Str) (ws : List PV) (zs : List V) (a : List (PV × PV)) (b : List (Key × V)), RKs K H m a b → RVs K H m ws zs → RKs K H m (mergeD a ks ws) (mergeK b ((ks.zip zs).map fun kv => (.inr kv.1, kv.2)))
  | [], ws, zs, a, b, r, _ => by cases ws <;> exact r
  | k :: ks, [], zs, a, b, r, h => by cases (show zs = [] from h); exact r
  | k :: ks, w :: ws, zs, a, b, r, h => by
    obtain ⟨v, s, rfl, h1, h2⟩ := h
    exact merge_of ks ws s _ _ (put_of (k := .str k) (q := .inr k) rfl h1 r) h2
theorem meth_eval {o : Expr} {name : Str} {apos pos : Pos} {args : List Expr} {env : Env} (hb : attributeBase o name env (eval o env) = eval o env) (hs : (backTo pos (starEach args env)).any (·.1) = false) (hn : args.length < 30) (hl : (apos.endLine == pos.line) = true) :
    eval (.Call (.Attribute o name apos) args [] pos) env = (do
      let ov ← eval o env
      standAt apos.atName
      let (f, first) ← holding [ov] (getMethod ov name (do return (← importBound o env).getD true))
      callWith pos f first (backTo pos (starEach args env)) (backToKw pos (keywordEach [] env))) := by
  refine mcall_of hb fun ov => ?_
  have few : methodCallForm (args.length + ([] : List Keyword).length) (backTo pos (starEach args env)) (backToKw pos (keywordEach [] env)) = true := by
    unfold methodCallForm
    have e1 : (backTo pos (starEach args env)).all (fun x => !x.1) = true := by
      rw [List.all_eq_not_any_not]
      simp only [Bool.not_not]
      rw [hs]; rfl
    rw [e1, Bool.true_and]
    show (true && decide (args.length + 0 + 0 < 30)) = true
    rw [Bool.true_and]; exact decide_eq_true (by omega)
  unfold methodCall
  rw [few]
  unfold calleeOf methodCallPos
  simp only [if_true, hl, Bool.or_true, pure_bind]
theorem lookup_no {gs : List (Str × V)} {k : Str} : (∀ s ∈ gs.map (·.1), s ≠ k) → gs.lookup k = none := by
  induction gs with
  | nil => intro _; rfl
  | cons p r ih =>
    intro h
    obtain ⟨a, b⟩ := p
    have h1 : a ≠ k := h a (List.mem_cons_self ..)
    have h2 : (k == a) = false := beq_eq_false_iff_ne.mpr (Ne.symm h1)
    show (match k == a with | true => some b | false => r.lookup k) = none
    rw [h2]
    exact ih fun s hs => h s (List.mem_cons_of_mem _ hs)
/-- o.m(..) -/
theorem pe_methG {X : Cx} {N : List Str} {sc : Sco} {W : WX} (g : Good M X N sc W k) {o : E} {mm : Nat} {y : Expr} {p q : Pos} {es : Es} {xs : List Expr} (hl : (p.endLine == q.line) = true) (hn : xs.length < 30) (hy : baseB y = true)
    (ho : PE X y (tE M W fun Y => evE M.G (callS M.G k) Y o)) (hm : mEs M.toMe N sc es xs = true) (ha : PA X xs (tA M W fun Y => evEs M.G (callS M.G k) Y es)) :
    PE X (.Call (.Attribute y (M.nm mm) p) xs [] q) (tE M W fun Y => evE M.G (callS M.G k) Y (.meth o mm es)) := by
  have hst : (backTo q (starEach xs X.env)).any (·.1) = false := star_plain X.env q hm
  refine ⟨fun pins s σ H Q I h => ?_⟩
  refine methcall_of ho I ?_ (meth_eval (base_of hy _ _) hst hn hl)
  obtain ⟨m, l, h, rh, rl, q0⟩ := h
  refine tE_in rh rl (fun _ _ z => z) q0 fun m1 H1 v w h1 e1 k1 rh1 rl1 rv1 q1 => ?_
  obtain ⟨a, c, fs, cd, f, rfl, ep, hc, hf, q1⟩ := q1
  obtain ⟨pa, e2, rfl⟩ := rv1
  obtain ⟨dx, gs, cd', a1, a2, a3, a4, a5⟩ := rh1.obj _ _ _ ep e2
  rw [hc] at a2; cases a2
  have ok := g.cls c cd hc
  obtain ⟨mt, nf, fd0⟩ := ok.meth mm f hf
  obtain ⟨d, hd⟩ := Option.isSome_iff_exists.mp fd0
  obtain ⟨fd, ps, F, ⟨kp, _⟩, D⟩ := (g.fns k (Nat.le_refl k) f d hd).ex
  have F' : FnG X.prog X.w X.K X.mg X.base (L2.CX X.prog X.w) k (M.fa f) fd ps (spF M k f d.np) := by rw [g.hK]; exact F
  have kp' : PySem.W.keepIn X.K (.ref (M.fa f)) = true := by rw [g.hK]; exact kp
  refine ⟨pa, M.ca c, dx, gs, M.fa f, rfl, a1, by rw [g.hK]; exact ok.cls, by rw [g.hK]; exact mt, lookup_no fun s hs e => nf (e ▸ a5 s hs), fun s1 I1 => ?_⟩
  have run : ∀ {H2 : Hp} {s2 : Shared} {us : List Value} {ws : List V} {vs : List PV} {m2 : List Addr} {h2 : PH}, L2.Inv X pins σ H2 s2 → Vals ws us → RH M H2 m2 h2 → RVs M.K H2 m2 (.ref a :: vs) (.ref pa :: ws) →
      callS M.G k (.fn f) (.ref a :: vs) h2 (LQ M m2 H2 Q) (LX M W σ m2 H2) → wpAny (model X.prog X.w) X.A (call (.ref (M.fa f)) (.ref pa :: us)) (EP X pins σ Q) X.xe s2 := by
    intro H2 s2 us ws vs m2 h2 I2 r rh2 rv2 q2
    obtain ⟨l1, l2, go⟩ := call_sp (E := WE W σ) hd rh2 rv2 q2
    obtain ⟨dvs, ds, hv, hb, hr⟩ := D _ l1 l2
    exact run_fnG F' g.gd g.room (by rw [g.hK]; exact hb) hv (passAt g.tk σ) I2 (.cons (show L2.RelV (V.ref pa) (Value.ref pa) from rfl) r) (go dvs hr)
  cases xs with
  | nil =>
    cases es with
    | cons _ _ => exact absurd hm Bool.false_ne_true
    | nil =>
      have q2 : callS M.G k (.fn f) [.ref a] h1 (LQ M m H Q) (LX M W σ m H) := q1
      exact PySem.W.callWith_K0 (first := [.ref pa]) I1.kIn kp' (run (us := []) (ws := []) (vs := []) I1 .nil rh1 ⟨_, _, rfl, ⟨pa, e2, rfl⟩, rfl⟩ (callS_mono (LQ.mono e1 k1) (LX.mono e1 k1) q2))
  | cons z zs =>
    obtain ⟨s2, s3⟩ := star_plain2 X.env q hm
    have q2 := tA_in (W := W) (σ := σ) (Q' := fun ws H2 => ∃ m2 h2 vs, RH M H2 m2 h2 ∧ RVs M.K H2 m2 (.ref a :: vs) (.ref pa :: ws) ∧ callS M.G k (.fn f) (.ref a :: vs) h2 (LQ M m2 H2 Q) (LX M W σ m2 H2)) rh1 rl1 (LX.mono e1 k1) q1
      fun m2 H2 u w2 h2 e2' k2 rh2 rl2 rv2 q2 => ⟨m2, h2, u, rh2, ⟨_, _, rfl, ⟨pa, e2' _ _ e2, rfl⟩, rv2⟩, callS_mono (LQ.mono (e1.trans e2') (k1.trans k2)) (LX.mono (e1.trans e2') (k1.trans k2)) q2⟩
    exact PySem.W.callWith_K (first := [.ref pa]) (h₀ := X.base) I1.ok.mod.kin kp' (thn (ha.run q pins s1 σ H1 _ I1 q2) fun us s2 ⟨ws, H2, I2, r, m2, h2, vs, rh2, rv2, q3⟩ => ⟨I2.kIn, run I2 r rh2 rv2 q3⟩) s2 s3
/-- C.__init__(..) -/
theorem pe_iniG {X : Cx} {N : List Str} {sc : Sco} {W : WX} (g : Good M X N sc W k) {c : Nat} {cd : CD} (hc : M.G.cls c = some cd) (hb : cd.base = true) (nbr : cd.bare = false) {p0 p q : Pos} {es : Es} {x0 : Expr} {xs : List Expr} (hg : glB sc (M.nm c) = true) (hl : (p.endLine == q.line) = true) (hn : (x0 :: xs).length < 30)
    (hm : mEs M.toMe N sc es (x0 :: xs) = true) (ha : PA X (x0 :: xs) (tA M W fun Y => evEs M.G (callS M.G k) Y es)) :
    PE X (.Call (.Attribute (.Name (M.nm c) p0) "__init__" p) (x0 :: xs) [] q) (tE M W fun Y => evE M.G (callS M.G k) Y (.ini c es)) := by
  obtain ⟨g1, g2⟩ := gl_of g hg
  have ok := g.cls c cd hc
  obtain ⟨rd, ga, at_⟩ := ok.inid hb
  obtain ⟨d, hd⟩ := Option.isSome_iff_exists.mp (ok.ini nbr)
  obtain ⟨fd, ps, F, ⟨kp, _⟩, D⟩ := (g.fns k (Nat.le_refl k) cd.init d hd).ex
  have F' : FnG X.prog X.w X.K X.mg X.base (L2.CX X.prog X.w) k (M.fa cd.init) fd ps (spF M k cd.init d.np) := by rw [g.hK]; exact F
  have kp' : PySem.W.keepIn X.K (.ref (M.fa cd.init)) = true := by rw [g.hK]; exact kp
  obtain ⟨s1, s2⟩ := star_plain2 X.env q hm
  refine ⟨fun pins s σ H Q I h => ?_⟩
  have h' : tA M W (fun Y => evEs M.G (callS M.G k) Y es) σ H fun ws H1 => ∃ m1 h1 vs, RH M H1 m1 h1 ∧ RVs M.K H1 m1 vs ws ∧ callS M.G k (.fn cd.init) vs h1 (LQ M m1 H1 Q) (LX M W σ m1 H1) := by
    obtain ⟨m, l, h, rh, rl, cd', hc', q⟩ := h
    rw [hc] at hc'; cases hc'
    exact tA_in rh rl (fun _ _ z => z) q fun m1 H1 v w h1 e1 k1 rh1 rl1 rv1 q1 => ⟨m1, h1, v, rh1, rv1, callS_mono (LQ.mono e1 k1) (LX.mono e1 k1) q1⟩
  refine PySem.W.methodCall_KW (ld_glob I g1 ok.glob ?_ g2) (meth_eval rfl (star_plain X.env q hm) hn hl)
  refine PySem.W.method_cls I.kIn (by rw [g.hK]; exact ga) ?_
  refine PySem.W.cls_value I.kIn (by rw [g.hK]; exact rd) (by rw [g.hK]; exact at_) rfl ?_
  have I1 := I.tok (s.toks + 1)
  refine PySem.W.callWith_K (first := []) (h₀ := X.base) I1.ok.mod.kin kp' (thn (ha.run q pins _ σ H _ I1 h') fun us s2 ⟨ws, H2, I2, r, m2, h2, vs, rh2, rv2, q3⟩ => ⟨I2.kIn, ?_⟩) s1 s2
  obtain ⟨l1, l2, go⟩ := call_sp (E := WE W σ) hd rh2 rv2 q3
  obtain ⟨dvs, ds, hv, hb2, hr⟩ := D _ l1 l2
  exact run_fnG F' g.gd g.room (by rw [g.hK]; exact hb2) hv (passAt g.tk σ) I2 r (go dvs hr)
mutual
theorem sE : ∀ (e : E) (X : Cx) (N : List Str) (sc : Sco) (W : WX) (x : Expr), Good M X N sc W k → mE M.toMe N sc e x = true → PE X x (tE M W fun Y => evE M.G (callS M.G k) Y e)
  | .var i, X, N, sc, W, x, g, hm => by
    cases x <;> first | exact absurd hm Bool.false_ne_true | skip
    rename_i id pos
    obtain ⟨h123, h4⟩ := ba hm
    obtain ⟨h12, h3⟩ := ba h123
    obtain ⟨h1, h2⟩ := ba h12
    refine (pe_var (i := i) (by rw [g.hN]; exact of_decide_eq_true h1) (vis_of g h2) (nb h3) (nb h4)).wk fun σ H Q q => ?_
    obtain ⟨m, l, h, rh, rl, v, e, q⟩ := q
    obtain ⟨w, e2, rv⟩ := rl.2 i v e
    exact ⟨w, e2, q.at rh rv⟩
  | .int i, X, N, sc, W, x, g, hm => by
    cases x <;> first | exact absurd hm Bool.false_ne_true | skip
    rename_i c j pos
    cases c <;> first | exact absurd hm Bool.false_ne_true | skip
    have e := of_decide_eq_true hm
    subst e
    exact pe_int.wk fun σ H Q ⟨m, l, h, rh, rl, q⟩ => LQ.at q rh rfl
  | .str i, X, N, sc, W, x, g, hm => by
    cases x <;> first | exact absurd hm Bool.false_ne_true | skip
    rename_i c j pos
    cases c <;> first | exact absurd hm Bool.false_ne_true | skip
    have e := of_decide_eq_true hm
    subst e
    exact pe_str.wk fun σ H Q ⟨m, l, h, rh, rl, q⟩ => LQ.at q rh rfl
  | .bl i, X, N, sc, W, x, g, hm => by
    cases x <;> first | exact absurd hm Bool.false_ne_true | skip
    rename_i c j pos
    cases c <;> first | exact absurd hm Bool.false_ne_true | skip
    have e := of_decide_eq_true hm
    subst e
    exact pe_bl.wk fun σ H Q ⟨m, l, h, rh, rl, q⟩ => LQ.at q rh rfl
  | .non, X, N, sc, W, x, g, hm => by
    cases x <;> first | exact absurd hm Bool.false_ne_true | skip
    rename_i c j pos
    cases c <;> first | exact absurd hm Bool.false_ne_true | skip
    exact pe_non.wk fun σ H Q ⟨m, l, h, rh, rl, q⟩ => LQ.at q rh rfl
  | .glob i, X, N, sc, W, x, g, hm => by
    cases x <;> first | exact absurd hm Bool.false_ne_true | skip
    rename_i id pos
    obtain ⟨h1, h2⟩ := ba hm
    have e := of_decide_eq_true h1
    subst e
    obtain ⟨g1, g2⟩ := gl_of g h2
    cases hc : M.G.con i with
    | none =>
      refine ⟨fun pins s σ H Q I q => ?_⟩
      obtain ⟨m, l, h, rh, rl, v, e, q⟩ := q
      rw [hc] at e; cases e
    | some v =>
      obtain ⟨u, w, hmg, ru, rv⟩ := g.glo.con i v hc
      refine (pe_glob g1 hmg ru g2).wk fun σ H Q q => ?_
      obtain ⟨m, l, h, rh, rl, v', e, q⟩ := q
      rw [hc] at e; cases e
      exact q.at rh (rv H m)
  | .bin o a b, X, N, sc, W, x, g, hm => by
    cases x <;> first | exact absurd hm Bool.false_ne_true | skip
    obtain ⟨h12, h3⟩ := ba hm
    obtain ⟨h1, h2⟩ := ba h12
    have e := of_decide_eq_true h1
    subst e
    refine (pe_op (sB g.hK o) (sE a X N sc W _ g h2) (sE b X N sc W _ g h3)).wk fun σ H Q q => ?_
    obtain ⟨m, l, h, rh, rl, q⟩ := q
    refine tE_in rh rl (fun _ _ z => z) q fun m1 H1 v w h1 e1 k1 rh1 rl1 rv1 q1 => ?_
    refine tE_in rh1 rl1 (LX.mono e1 k1) q1 fun m2 H2 u w2 h2 e2 k2 rh2 rl2 rv2 q2 => ?_
    exact ⟨m2, h2, v, u, rh2, rv1.mono k2 e2, rv2, binV_mono (LQ.mono (e1.trans e2) (k1.trans k2)) q2⟩
  | .neg a, X, N, sc, W, x, g, hm => by
    cases x <;> first | exact absurd hm Bool.false_ne_true | skip
    rename_i op y pos
    cases op <;> first | exact absurd hm Bool.false_ne_true | skip
    refine (pe_un un_neg (sE a X N sc W _ g hm)).wk fun σ H Q q => ?_
    obtain ⟨m, l, h, rh, rl, q⟩ := q
    refine tE_in rh rl (fun _ _ z => z) q fun m1 H1 v w h1 e1 k1 rh1 rl1 rv1 q1 => ?_
    obtain ⟨i, rfl, q1⟩ := q1
    exact ⟨i, rv1, (LQ.mono e1 k1 _ _ q1).at rh1 rfl⟩
  | .nt a, X, N, sc, W, x, g, hm => by
    cases x <;> first | exact absurd hm Bool.false_ne_true | skip
    rename_i op y pos
    cases op <;> first | exact absurd hm Bool.false_ne_true | skip
    refine (pe_not (sE a X N sc W _ g hm)).wk fun σ H Q q => ?_
    obtain ⟨m, l, h, rh, rl, q⟩ := q
    refine tE_in rh rl (fun _ _ z => z) q fun m1 H1 v w h1 e1 k1 rh1 rl1 rv1 q1 => ?_
    obtain ⟨i, rfl, q1⟩ := q1
    exact ⟨i, rv1, (LQ.mono e1 k1 _ _ q1).at rh1 rfl⟩
  | .and a b, X, N, sc, W, x, g, hm => by
    cases x <;> first | exact absurd hm Bool.false_ne_true | skip
    rename_i op xs pos
    cases op <;> first | exact absurd hm Bool.false_ne_true | skip
    match xs, hm with
    | [], hm => exact absurd hm Bool.false_ne_true
    | [_], hm => exact absurd hm Bool.false_ne_true
    | y :: z :: r, hm =>
      obtain ⟨h1, h2⟩ := ba hm
      have hb : PE X (.BoolOp .And (z :: r) pos) (tE M W fun Y => evE M.G (callS M.G k) Y b) := by
        cases r with
        | nil => exact pe_one (sE b X N sc W _ g h2)
        | cons z' r' => exact sE b X N sc W _ g h2
      refine (pe_and (sE a X N sc W _ g h1) hb).wk fun σ H Q q => ?_
      obtain ⟨m, l, h, rh, rl, q⟩ := q
      refine tE_in rh rl (fun _ _ z => z) q fun m1 H1 v w h1 e1 k1 rh1 rl1 rv1 q1 => ?_
      obtain ⟨i, rfl, q1⟩ := q1
      refine ⟨i, rv1, ?_⟩
      cases i with
      | true => exact tE_in rh1 rl1 (LX.mono e1 k1) q1 fun m2 H2 u w2 h2 e2 k2 rh2 rl2 rv2 q2 => (LQ.mono (e1.trans e2) (k1.trans k2) _ _ q2).at rh2 rv2
      | false => exact (LQ.mono e1 k1 _ _ q1).at rh1 rfl
  | .or a b, X, N, sc, W, x, g, hm => by
    cases x <;> first | exact absurd hm Bool.false_ne_true | skip
    rename_i op xs pos
    cases op <;> first | exact absurd hm Bool.false_ne_true | skip
    match xs, hm with
    | [], hm => exact absurd hm Bool.false_ne_true
    | [_], hm => exact absurd hm Bool.false_ne_true
    | y :: z :: r, hm =>
      obtain ⟨h1, h2⟩ := ba hm
      have hb : PE X (.BoolOp .Or (z :: r) pos) (tE M W fun Y => evE M.G (callS M.G k) Y b) := by
        cases r with
        | nil => exact pe_one (sE b X N sc W _ g h2)
        | cons z' r' => exact sE b X N sc W _ g h2
      refine (pe_or (sE a X N sc W _ g h1) hb).wk fun σ H Q q => ?_
      obtain ⟨m, l, h, rh, rl, q⟩ := q
      refine tE_in rh rl (fun _ _ z => z) q fun m1 H1 v w h1 e1 k1 rh1 rl1 rv1 q1 => ?_
      obtain ⟨i, rfl, q1⟩ := q1
      refine ⟨i, rv1, ?_⟩
      cases i with
      | false => exact tE_in rh1 rl1 (LX.mono e1 k1) q1 fun m2 H2 u w2 h2 e2 k2 rh2 rl2 rv2 q2 => (LQ.mono (e1.trans e2) (k1.trans k2) _ _ q2).at rh2 rv2
      | true => exact (LQ.mono e1 k1 _ _ q1).at rh1 rfl
  | .cmp o a b, X, N, sc, W, x, g, hm => by
    cases x <;> first | exact absurd hm Bool.false_ne_true | skip
    rename_i y ops zs pos
    match ops, zs, hm with
    | [], _, hm => exact absurd hm Bool.false_ne_true
    | [_], [], hm => exact absurd hm Bool.false_ne_true
    | [_], _ :: _ :: _, hm => exact absurd hm Bool.false_ne_true
    | _ :: _ :: _, _, hm => exact absurd hm Bool.false_ne_true
    | [p], [z], hm =>
      obtain ⟨h123, h4⟩ := ba hm
      obtain ⟨h12, h3⟩ := ba h123
      obtain ⟨h1, h2⟩ := ba h12
      have e := of_decide_eq_true h1
      subst e
      refine (pe_cmpR (sC g.hK g.room.units o) (sE a X N sc W _ g h3) (sE b X N sc W _ g h4) (nb h2)).wk fun σ H Q q => ?_
      obtain ⟨m, l, h, rh, rl, q⟩ := q
      refine tE_in rh rl (fun _ _ z => z) q fun m1 H1 v w h1 e1 k1 rh1 rl1 rv1 q1 => ?_
      refine tE_in rh1 rl1 (LX.mono e1 k1) q1 fun m2 H2 u w2 h2 e2 k2 rh2 rl2 rv2 q2 => ?_
      refine ⟨m2, h2, v, u, rh2, rv1.mono k2 e2, rv2, cmpV_mono (fun r h3 q3 m3 H3 e3 k3 rh3 => ?_) q2⟩
      exact q3 m3 H3 _ ((e1.trans e2).trans e3) ((k1.trans k2).trans k3) rh3 rfl
  | .chain o o' a b c, X, N, sc, W, x, g, hm => by
    cases x <;> first | exact absurd hm Bool.false_ne_true | skip
    rename_i y ops zs pos
    match ops, zs, hm with
    | [], _, hm => exact absurd hm Bool.false_ne_true
    | [_], _, hm => exact absurd hm Bool.false_ne_true
    | _ :: _ :: _ :: _, _, hm => exact absurd hm Bool.false_ne_true
    | [_, _], [], hm => exact absurd hm Bool.false_ne_true
    | [_, _], [_], hm => exact absurd hm Bool.false_ne_true
    | [_, _], _ :: _ :: _ :: _, hm => exact absurd hm Bool.false_ne_true
    | [p, p'], [z, z'], hm =>
      obtain ⟨h12345, h6⟩ := ba hm
      obtain ⟨h1234, h5⟩ := ba h12345
      obtain ⟨h123, h4⟩ := ba h1234
      obtain ⟨h12, h3⟩ := ba h123
      obtain ⟨h1, h2⟩ := ba h12
      have e := of_decide_eq_true h1
      have e' := of_decide_eq_true h2
      subst e; subst e'
      refine (pe_chain (sC g.hK g.room.units o) (sC g.hK g.room.units o') (sE a X N sc W _ g h4) (sE b X N sc W _ g h5) (sE c X N sc W _ g h6) (nb h3)).wk fun σ H Q q => ?_
      obtain ⟨m, l, h, rh, rl, q⟩ := q
      refine tE_in rh rl (fun _ _ z => z) q fun m1 H1 v w h1 e1 k1 rh1 rl1 rv1 q1 => ?_
      refine tE_in rh1 rl1 (LX.mono e1 k1) q1 fun m2 H2 u w2 h2 e2 k2 rh2 rl2 rv2 q2 => ?_
      refine ⟨m2, h2, v, u, rh2, rv1.mono k2 e2, rv2, cmpV_mono (fun r h3 q3 m3 H3 e3 k3 rh3 => ?_) q2⟩
      refine ⟨r, rfl, ?_⟩
      have e13 := (e1.trans e2).trans e3
      have k13 := (k1.trans k2).trans k3
      cases r with
      | false => exact q3 m3 H3 _ e13 k13 rh3 rfl
      | true =>
        refine tE_in rh3 (rl2.mono k3 e3) (LX.mono e13 k13) q3 fun m4 H4 u4 w4 h4 e4 k4 rh4 rl4 rv4 q4 => ?_
        refine ⟨m4, h4, u, u4, rh4, rv2.mono (k3.trans k4) (e3.trans e4), rv4, cmpV_mono (fun r h5 q5 m5 H5 e5 k5 rh5 => ?_) q4⟩
        exact q5 m5 H5 _ ((e13.trans e4).trans e5) ((k13.trans k4).trans k5) rh5 rfl
  | .ite c a b, X, N, sc, W, x, g, hm => by
    cases x <;> first | exact absurd hm Bool.false_ne_true | skip
    obtain ⟨h12, h3⟩ := ba hm
    obtain ⟨h1, h2⟩ := ba h12
    refine (pe_ifExp (sT c X N sc W _ g h1).1 (sE a X N sc W _ g h2) (sE b X N sc W _ g h3)).wk fun σ H Q q => ?_
    obtain ⟨m, l, h, rh, rl, q⟩ := q
    refine tT_in rh rl (fun _ _ z => z) q fun m1 H1 r h1 e1 k1 rh1 rl1 q1 => ?_
    cases r with
    | true => exact tE_in rh1 rl1 (LX.mono e1 k1) q1 fun m2 H2 u w2 h2 e2 k2 rh2 rl2 rv2 q2 => (LQ.mono (e1.trans e2) (k1.trans k2) _ _ q2).at rh2 rv2
    | false => exact tE_in rh1 rl1 (LX.mono e1 k1) q1 fun m2 H2 u w2 h2 e2 k2 rh2 rl2 rv2 q2 => (LQ.mono (e1.trans e2) (k1.trans k2) _ _ q2).at rh2 rv2
  | .tup es, X, N, sc, W, x, g, hm => by
    cases x <;> first | exact absurd hm Bool.false_ne_true | skip
    refine (pe_tup (sEs es X N sc W _ g hm)).wk fun σ H Q q => ?_
    obtain ⟨m, l, h, rh, rl, q⟩ := q
    refine tA_in rh rl (fun _ _ z => z) q fun m1 H1 v w h1 e1 k1 rh1 rl1 rv1 q1 => ?_
    refine ⟨by rw [← rv1.len]; exact q1.1, fun p hp => ?_⟩
    exact q1.2 m1 (upd H1 p (.tup w)) _ e1 (k1.trans (Kp.upd_new hp)) (rh1.tup hp) ⟨p, w, rfl, .inl (.inl upd_same), rv1.mono (Kp.upd_new hp) (Ex.refl m1) _ _⟩
  | .lst es, X, N, sc, W, x, g, hm => by
    cases x <;> first | exact absurd hm Bool.false_ne_true | skip
    refine (pe_lst (sEs es X N sc W _ g hm)).wk fun σ H Q q => ?_
    obtain ⟨m, l, h, rh, rl, q⟩ := q
    refine tA_in rh rl (fun _ _ z => z) q fun m1 H1 v w h1 e1 k1 rh1 rl1 rv1 q1 => ?_
    refine ⟨by rw [← rv1.len]; exact q1.1, ?_⟩
    exact (LQ.mono e1 k1 _ _ q1.2).new rh1 rfl fun p hp => ⟨w, upd_same, rv1.mono (Kp.upd_new hp) (Ex.app m1 p) _ _⟩
  | .idx a b, X, N, sc, W, x, g, hm => by
    cases x <;> first | exact absurd hm Bool.false_ne_true | skip
    rename_i y z pos
    have hm' : (mE M.toMe N sc a y && mE M.toMe N sc b z) = true := by
      cases z <;> exact hm
    obtain ⟨h1, h2⟩ := ba hm'
    refine (pe_ix (sIx_ g.hK (by have := g.room.un; omega)) (sE a X N sc W _ g h1) (sE b X N sc W _ g h2) (plainIx_of h2)).wk fun σ H Q q => ?_
    obtain ⟨m, l, h, rh, rl, q⟩ := q
    refine tE_in rh rl (fun _ _ z => z) q fun m1 H1 v w h1 e1 k1 rh1 rl1 rv1 q1 => ?_
    refine tE_in rh1 rl1 (LX.mono e1 k1) q1 fun m2 H2 u w2 h2 e2 k2 rh2 rl2 rv2 q2 => ?_
    exact ⟨m2, h2, v, u, rh2, rv1.mono k2 e2, rv2, idxV_mono (LQ.mono (e1.trans e2) (k1.trans k2)) q2⟩
  | .slc a lo hi, X, N, sc, W, x, g, hm => by
    cases x <;> first | exact absurd hm Bool.false_ne_true | skip
    rename_i y z pos
    cases z <;> first | exact absurd hm Bool.false_ne_true | skip
    rename_i l u st p2
    cases st <;> first | exact absurd hm Bool.false_ne_true | skip
    obtain ⟨h12, h3⟩ := ba hm
    obtain ⟨h1, h2⟩ := ba h12
    refine (pe_slice (sSl g.hK) (sE a X N sc W _ g h1) (sO lo X N sc W _ g h2) (sO hi X N sc W _ g h3)).wk fun σ H Q q => ?_
    obtain ⟨m, l, h, rh, rl, q⟩ := q
    refine tE_in rh rl (fun _ _ z => z) q fun m1 H1 v w h1 e1 k1 rh1 rl1 rv1 q1 => ?_
    refine tO_in rh1 rl1 (LX.mono e1 k1) q1 fun m2 H2 u h2 e2 k2 rh2 rl2 q2 => ?_
    refine tO_in rh2 rl2 (LX.mono (e1.trans e2) (k1.trans k2)) q2 fun m3 H3 u3 h3 e3 k3 rh3 rl3 q3 => ?_
    exact ⟨m3, h3, v, rh3, rv1.mono (k2.trans k3) (e2.trans e3), slcV_mono (LQ.mono ((e1.trans e2).trans e3) ((k1.trans k2).trans k3)) q3⟩
  | .call f es, X, N, sc, W, x, g, hm => by
    cases x <;> first | exact absurd hm Bool.false_ne_true | skip
    rename_i fn xs kw pos
    cases fn <;> first | exact absurd hm Bool.false_ne_true | skip
    rename_i id p
    cases kw <;> first | exact absurd hm Bool.false_ne_true | skip
    obtain ⟨h01, h234⟩ := ba hm
    obtain ⟨h1, h0⟩ := ba h01
    obtain ⟨h2, h34⟩ := ba h234
    obtain ⟨h3, h4⟩ := ba h34
    have e := of_decide_eq_true h2
    obtain ⟨g1, g2⟩ := gl_of g h3
    obtain ⟨d, hf⟩ := Option.isSome_iff_exists.mp h0
    refine (pe_callG g hf e.symm h1 g1 g2 h4 (sEs es X N sc W _ g h4) (fun hx σ H Q q => ?_)).wk fun σ H Q q => ?_
    · subst hx
      cases es with
      | nil => obtain ⟨m, l, h, rh, rl, q⟩ := q; exact q m H [] (Ex.refl m) (Kp.refl _ H) rh rfl
      | cons _ _ => exact absurd h4 Bool.false_ne_true
    · obtain ⟨m, l, h, rh, rl, q⟩ := q
      refine tA_in rh rl (fun _ _ z => z) q fun m1 H1 v w h1 e1 k1 rh1 rl1 rv1 q1 => ?_
      exact call_sp hf rh1 rv1 (callS_mono (LQ.mono e1 k1) (LX.mono e1 k1) q1)
  | .isi f a, X, N, sc, W, x, g, hm => by
    cases x <;> first | exact absurd hm Bool.false_ne_true | skip
    rename_i fn xs kw pos
    cases fn <;> first | exact absurd hm Bool.false_ne_true | skip
    rename_i id p
    match xs, kw, hm with
    | [], _, hm => exact absurd hm Bool.false_ne_true
    | [_], _, hm => exact absurd hm Bool.false_ne_true
    | _ :: _ :: _ :: _, _, hm => simp [mE] at hm
    | [_, _], _ :: _, hm => simp [mE] at hm
    | [y, z], [], hm =>
      cases z <;> first | exact absurd hm Bool.false_ne_true | skip
      rename_i t tp
      obtain ⟨h12, h3456⟩ := ba hm
      obtain ⟨h1, h2⟩ := ba h12
      obtain ⟨h34, h56⟩ := ba h3456
      obtain ⟨h3, h4⟩ := ba h34
      obtain ⟨h5, h6⟩ := ba h56
      exact sIsT g h1 (of_decide_eq_true h3) (of_decide_eq_true h4) h2 h5 h6 (sE a X N sc W _ g h6)
  | .bf f .nil, X, N, sc, W, x, g, hm => by
    cases x <;> first | exact absurd hm Bool.false_ne_true | simp [mE] at hm
  | .bf f (.cons a r), X, N, sc, W, x, g, hm => by
    cases x <;> first | exact absurd hm Bool.false_ne_true | skip
    rename_i fn xs kw pos
    cases fn <;> first | exact absurd hm Bool.false_ne_true | skip
    rename_i id p
    cases kw <;> first | exact absurd hm Bool.false_ne_true | skip
    obtain ⟨h12, h34⟩ := ba hm
    obtain ⟨h1, h2⟩ := ba h12
    obtain ⟨h3, h4⟩ := ba h34
    cases xs with
    | nil => exact absurd h4 Bool.false_ne_true
    | cons y ys =>
      refine (sBf g f (nb h1) (of_decide_eq_true h3) h2 h4 (sEs (.cons a r) X N sc W _ g h4)).wk fun σ H Q q => ?_
      obtain ⟨m, l, h, rh, rl, q⟩ := q
      refine tA_in rh rl (fun _ _ z => z) q fun m1 H1 v w h1 e1 k1 rh1 rl1 rv1 q1 => ?_
      exact ⟨m1, h1, v, rh1, rv1, bfV_mono (LQ.mono e1 k1) q1⟩
  | .mkK c es e, X, N, sc, W, x, g, hm => by
    cases x <;> first | exact absurd hm Bool.false_ne_true | skip
    rename_i fn xs kw pos
    cases fn <;> first | exact absurd hm Bool.false_ne_true | skip
    rename_i id p
    match kw, hm with
    | [], hm => exact absurd hm Bool.false_ne_true
    | ⟨none, _, _⟩ :: _, hm => exact absurd hm (by simp [mE])
    | ⟨some _, _, _⟩ :: _ :: _, hm => exact absurd hm (by simp [mE])
    | [⟨some kn, z, kp⟩], hm =>
      obtain ⟨h123, h456⟩ := ba hm
      obtain ⟨h12, h3⟩ := ba h123
      obtain ⟨h1, h2⟩ := ba h12
      obtain ⟨h3, h3'⟩ := ba h3
      obtain ⟨h4, h56⟩ := ba h456
      obtain ⟨h5, h6⟩ := ba h56
      have e1 := of_decide_eq_true h3
      subst e1
      obtain ⟨cd, hc⟩ := Option.isSome_iff_exists.mp h1
      cases xs with
      | nil => exact absurd h3' Bool.false_ne_true
      | cons y0 ys => exact pe_mkNG g hc h2 h4 h5 (sEs es X N sc W _ g h5) (sE e X N sc W _ g h6)
  | .dicl ks vs, X, N, sc, W, x, g, hm => by
    cases x <;> first | exact absurd hm Bool.false_ne_true | skip
    rename_i keys xs pos
    obtain ⟨h1234, h5⟩ := ba hm
    obtain ⟨h1, h234⟩ := ba h1234
    obtain ⟨h2, h34⟩ := ba h234
    obtain ⟨h3, h4⟩ := ba h34
    obtain ⟨trs, hp, ht⟩ := sPs vs X N sc W pos xs ks keys g h5
    refine (pe_disp hp h1 (of_decide_eq_true h2) (fun z => by rw [z] at h3; exact absurd h3 Bool.false_ne_true) (of_decide_eq_true h4)).wk fun σ H Q q => ?_
    obtain ⟨m, l, h, rh, rl, q⟩ := q
    intro p hpn
    have q : evEs M.G (callS M.G k) (LX M W σ m H) vs l (h ++ [.dic []]) fun xs h2 => h2[h.length]? = some (.dic []) ∧ xs.length = ks.length ∧ ks.length ≤ 15 ∧ LQ M m H Q (.ref h.length) (h2.set h.length (.dic (mergeD [] ks xs))) := q
    have rh1 : RH M (upd H p (.dK [])) (m ++ [p]) (h ++ [.dic []]) := rh.new (o := .dic []) hpn ⟨[], upd_same, rfl⟩ rfl
    have k1 : Kp M.K H (upd H p (.dK [])) := Kp.upd_new hpn
    have e1 : Ex m (m ++ [p]) := Ex.app m p
    refine ht σ _ _ ⟨m ++ [p], l, h ++ [.dic []], rh1, rl.mono k1 e1, evEs_mono (csle M k) (LX.mono e1 k1) vs _ _ _ _ (fun ws h2 q2 m2 H2 zs e2 k2 rh2 rv2 => ?_) q⟩
    obtain ⟨q1, q3, q4, q5⟩ := q2
    have ep : m2[h.length]? = some p := e2 _ _ (by rw [← rh.len]; simp)
    obtain ⟨ks0, a1, a2⟩ := rh2.obj _ _ _ q1 ep
    cases (show ks0 = [] from a2)
    have zl := rv2.len
    refine ⟨a1, (ks.zip zs).map fun kv => (.inr kv.1, kv.2), ?_, ?_, ?_⟩
    · exact zip_kv ks zs
    · rw [List.length_map, List.length_zip]; omega
    · have kk : Kp M.K H2 (upd H2 p (.dK (mergeK [] ((ks.zip zs).map fun kv => (.inr kv.1, kv.2))))) := Kp.upd_old a1 rfl
      have rk : RKs M.K H2 m2 (mergeD [] ks ws) (mergeK [] ((ks.zip zs).map fun kv => (.inr kv.1, kv.2))) := merge_of ks ws zs [] [] rfl rv2
      have put := rh2.put (u := .dK (mergeK [] ((ks.zip zs).map fun kv => (.inr kv.1, kv.2)))) (o := .dic (mergeD [] ks ws)) q1 ep rfl rfl ⟨_, upd_same, rk.mono kk (Ex.refl m2)⟩
      exact q5 m2 _ (.ref p) (e1.trans e2) ((k1.trans k2).trans kk) put.1 ⟨p, ep, rfl⟩
  | .slr a, X, N, sc, W, x, g, hm => by
    cases x <;> first | exact absurd hm Bool.false_ne_true | skip
    rename_i y z pos
    cases z <;> first | exact absurd hm Bool.false_ne_true | skip
    rename_i l u st p2
    cases l <;> first | exact absurd hm Bool.false_ne_true | skip
    cases u <;> first | exact absurd hm Bool.false_ne_true | skip
    cases st <;> first | exact absurd hm Bool.false_ne_true | skip
    rename_i st
    cases st <;> first | exact absurd hm Bool.false_ne_true | skip
    rename_i op st p3
    cases op <;> first | exact absurd hm Bool.false_ne_true | skip
    cases st <;> first | exact absurd hm Bool.false_ne_true | skip
    rename_i cst k4 p4
    cases cst <;> first | exact absurd hm Bool.false_ne_true | skip
    obtain ⟨h1, h2⟩ := ba hm
    have e1 := of_decide_eq_true h1
    subst e1
    refine (pe_revL (sE a X N sc W _ g h2)).wk fun σ H Q q => ?_
    obtain ⟨m, l, h, rh, rl, q⟩ := q
    refine tE_in rh rl (fun _ _ z => z) q fun m1 H1 v w h1 e1 k1 rh1 rl1 rv1 q1 => ?_
    obtain ⟨p, xs, rfl, e2, q1⟩ := q1
    obtain ⟨pa, vs, rfl, e3, e4⟩ := lstOf_get rh1 rv1 e2
    exact ⟨pa, vs, rfl, by rw [g.hK]; exact e3, (LQ.mono e1 k1 _ _ q1).new rh1 rfl fun p2 hp2 => ⟨_, upd_same, e4.rev.mono (Kp.upd_new hp2) (Ex.app m1 p2) _ _⟩⟩
  | .dic0, X, N, sc, W, x, g, hm => by
    cases x <;> first | exact absurd hm Bool.false_ne_true | skip
    rename_i ks vs pos
    match ks, vs, hm with
    | [], [], hm =>
      refine pe_dnewK.wk fun σ H Q q => ?_
      obtain ⟨m, l, h, rh, rl, q⟩ := q
      exact LQ.new q rh rfl fun p hp => ⟨[], upd_same, rfl⟩
    | _ :: _, _, hm => exact absurd hm Bool.false_ne_true
    | [], _ :: _, hm => exact absurd hm Bool.false_ne_true
  | .dget o a b, X, N, sc, W, x, g, hm => by
    cases x <;> first | exact absurd hm Bool.false_ne_true | skip
    rename_i fn xs kw pos
    cases fn <;> first | exact absurd hm Bool.false_ne_true | skip
    rename_i y name p
    match xs, kw, hm with
    | [z, w], [], hm =>
      obtain ⟨h12, h3456⟩ := ba hm
      obtain ⟨h1, h2⟩ := ba h12
      obtain ⟨h3, h456⟩ := ba h3456
      obtain ⟨h4, h56⟩ := ba h456
      obtain ⟨h5, h6⟩ := ba h56
      have e := of_decide_eq_true h1
      subst e
      have tr : backTo pos (starEach [z, w] X.env) = [(false, eval z X.env), (false, eval w X.env)] := by rw [star_of h5 X.env, star_of h6 X.env] <;> rfl
      refine (pe_dget2 (apos := p) (cpos := pos) (by have := g.room.un; omega) (sE o X N sc W y g h4) (sE a X N sc W z g h5) (sE b X N sc W w g h6) ⟨base_of h3 _ _, by rw [tr] <;> rfl, h2, tr⟩).wk fun σ H Q q => ?_
      obtain ⟨m, l, h, rh, rl, q⟩ := q
      refine tE_in rh rl (fun _ _ z => z) q fun m1 H1 v w h1 e1 k1 rh1 rl1 rv1 q1 => ?_
      obtain ⟨ty, q1⟩ := q1
      obtain ⟨pa, rfl, ks0, e0⟩ := dic_ty rh1 rv1 ty
      refine ⟨pa, rfl, .inl ⟨ks0, .inl e0⟩, ?_⟩
      refine tE_in rh1 rl1 (LX.mono e1 k1) q1 fun m2 H2 u w2 h2 e2 k2 rh2 rl2 rv2 q2 => ?_
      refine tE_in rh2 rl2 (LX.mono (e1.trans e2) (k1.trans k2)) q2 fun m3 H3 u3 w3 h3 e3 k3 rh3 rl3 rv3 q3 => ?_
      obtain ⟨b, kvs, rfl, ed, hk, q3⟩ := q3
      obtain ⟨pb, eb, rv1'⟩ := rv1
      cases rv1'
      obtain ⟨ks, e4, rk⟩ := rh3.obj _ _ _ ed (e3 _ _ (e2 _ _ eb))
      obtain ⟨q', hq, rfl⟩ := isK_of hk rv2
      refine ⟨valV ks q', DGet.k e4, ?_⟩
      have lk := look_of hq rk
      refine ((LQ.mono ((e1.trans e2).trans e3) ((k1.trans k2).trans k3) _ _ q3).at rh3 ?_)
      cases e5 : lookD u kvs <;> cases e6 : valV ks q' <;> rw [e5, e6] at lk <;> first | exact lk.elim | exact rv3 | exact lk
    | [], _, hm => exact absurd hm Bool.false_ne_true
    | [_], _, hm => exact absurd hm Bool.false_ne_true
    | _ :: _ :: _ :: _, _, hm => simp [mE] at hm
    | [_, _], _ :: _, hm => exact absurd hm Bool.false_ne_true
  | .attr a f, X, N, sc, W, x, g, hm => by
    cases x <;> first | exact absurd hm Bool.false_ne_true | skip
    rename_i y nm pos
    obtain ⟨h12, h3⟩ := ba hm
    obtain ⟨h1, h2⟩ := ba h12
    have e := of_decide_eq_true h1
    subst e
    refine (pe_fld (sE a X N sc W y g h3) (base_of h2 _ _)).wk fun σ H Q q => ?_
    obtain ⟨m, l, h, rh, rl, q⟩ := q
    refine tE_in rh rl (fun _ _ z => z) q fun m1 H1 v w h1 e1 k1 rh1 rl1 rv1 q1 => ?_
    obtain ⟨p, c, fs, u, cd, rfl, ep, hc, hf, eg, q1⟩ := q1
    obtain ⟨pa, e2, rfl⟩ := rv1
    obtain ⟨dx, gs, cd', a1, a2, a3, a4, a5⟩ := rh1.obj _ _ _ ep e2
    rw [hc] at a2; cases a2
    have ok := g.cls c cd hc
    have o := a3 f hf
    rw [eg] at o
    cases el : gs.lookup (M.nm f) with
    | none => rw [el] at o; exact o.elim
    | some z =>
      rw [el] at o
      exact ⟨pa, _, dx, gs, z, rfl, a1, by rw [g.hK]; exact ok.cls, by rw [g.hK]; exact ok.noat f (List.contains_iff_mem.mp hf), el, (LQ.mono e1 k1 _ _ q1).at rh1 o⟩
  | .mk c es, X, N, sc, W, x, g, hm => by
    cases x <;> first | exact absurd hm Bool.false_ne_true | skip
    rename_i fn xs kw pos
    cases fn <;> first | exact absurd hm Bool.false_ne_true | skip
    rename_i id p
    cases kw <;> first | exact absurd hm Bool.false_ne_true | skip
    obtain ⟨h1, h234⟩ := ba hm
    obtain ⟨h2, h34⟩ := ba h234
    obtain ⟨h3, h4⟩ := ba h34
    have e := of_decide_eq_true h2
    subst e
    unfold mkB at h1
    cases hc : M.toMe.G.cls c with
    | none => rw [hc] at h1; cases h1
    | some cd =>
      rw [hc] at h1
      exact pe_mkG g hc (by simpa using h1) h3 h4 (sEs es X N sc W _ g h4)
  | .mk0 c, X, N, sc, W, x, g, hm => by
    cases x <;> first | exact absurd hm Bool.false_ne_true | skip
    rename_i fn xs kw pos
    cases fn <;> first | exact absurd hm Bool.false_ne_true | skip
    rename_i id p
    cases xs <;> first | exact absurd hm Bool.false_ne_true | skip
    cases kw <;> first | exact absurd hm Bool.false_ne_true | skip
    obtain ⟨h1, h23⟩ := ba hm
    obtain ⟨h2, h3⟩ := ba h23
    have e := of_decide_eq_true h2
    subst e
    unfold mk0B at h1
    cases hc : M.toMe.G.cls c with
    | none => rw [hc] at h1; cases h1
    | some cd =>
      rw [hc] at h1
      exact pe_mk0G g hc h1 h3
  | .lrg1 a, X, N, sc, W, x, g, hm => by
    cases x <;> first | exact absurd hm Bool.false_ne_true | skip
    rename_i fn xs kw pos
    cases fn <;> first | exact absurd hm Bool.false_ne_true | skip
    rename_i id p
    match xs, kw, hm with
    | [], _, hm => exact absurd hm Bool.false_ne_true
    | _ :: _ :: _, _, hm => simp [mE] at hm
    | [y], _ :: _, hm => simp [mE] at hm
    | [y], [], hm =>
      cases y <;> first | exact absurd hm Bool.false_ne_true | skip
      rename_i fn ys kw pos2
      cases fn <;> first | exact absurd hm Bool.false_ne_true | skip
      rename_i id2 p2
      match ys, kw, hm with
      | [], _, hm => exact absurd hm Bool.false_ne_true
      | _ :: _ :: _, _, hm => simp [mE] at hm
      | [y], _ :: _, hm => simp [mE] at hm
      | [z], [], hm =>
        obtain ⟨h12, h345⟩ := ba hm
        obtain ⟨h1, h2⟩ := ba h12
        obtain ⟨h34, h5⟩ := ba h345
        obtain ⟨h3, h4⟩ := ba h34
        have e := of_decide_eq_true h1
        subst e
        have e := of_decide_eq_true h3
        subst e
        obtain ⟨g1, _⟩ := gl_of g h2
        obtain ⟨g3, _⟩ := gl_of g h4
        refine (pe_listRg g.calm g1 (g.glo.free _ (by simp [bltNames])) (prg_1 g3 (g.glo.free _ (by simp [bltNames])) (sE a X N sc W z g h5) (star_of h5 X.env _))).wk fun σ H Q q => ?_
        obtain ⟨m, l, h, rh, rl, q⟩ := q
        refine tE_in rh rl (fun _ _ z => z) q fun m1 H1 v w h1 e1 k1 rh1 rl1 rv1 q1 => ?_
        obtain ⟨j, rfl, ⟨b1, b2⟩, q1⟩ := q1
        cases (show w = .int j from rv1)
        refine ⟨j, rfl, RgOk.of_le (by omega) (by show j ≤ 16777216; exact b2) (by omega) b1, fun q' hq => ?_⟩
        have kk : Kp M.K H1 (upd H1 q' (.lst (L2.rgV 0 j))) := Kp.upd_new hq
        have rvs : RVs M.K (upd H1 q' (.lst (L2.rgV 0 j))) (m1 ++ [q']) (rangeL 0 j.toNat) (L2.rgV 0 j) := by
          unfold rangeL L2.rgV
          rw [Int.sub_zero]
          exact rvs_ints _
        have rh2 := rh1.new (u := .lst (L2.rgV 0 j)) (o := .lst (rangeL 0 j.toNat)) hq ⟨_, upd_same, rvs⟩ rfl
        exact (LQ.mono e1 k1 _ _ q1) _ _ _ (Ex.app m1 q') kk rh2 ⟨q', by rw [← rh1.len]; simp, rfl⟩
  | .meth o mm es, X, N, sc, W, x, g, hm => by
    cases x <;> first | exact absurd hm Bool.false_ne_true | skip
    rename_i fn xs kw pos
    cases fn <;> first | exact absurd hm Bool.false_ne_true | skip
    rename_i y name p
    cases kw <;> first | exact absurd hm Bool.false_ne_true | skip
    obtain ⟨h123, h456⟩ := ba hm
    obtain ⟨h1, h23⟩ := ba h123
    obtain ⟨h2, h3⟩ := ba h23
    obtain ⟨h4, h56⟩ := ba h456
    obtain ⟨h5, h6⟩ := ba h56
    have e := of_decide_eq_true h1
    subst e
    exact pe_methG g h2 (of_decide_eq_true h3) h4 (sE o X N sc W _ g h5) h6 (sEs es X N sc W _ g h6)
  | .ini c es, X, N, sc, W, x, g, hm => by
    cases x <;> first | exact absurd hm Bool.false_ne_true | skip
    rename_i fn xs kw pos
    cases fn <;> first | exact absurd hm Bool.false_ne_true | skip
    rename_i y name p
    cases y <;> first | exact absurd hm Bool.false_ne_true | skip
    rename_i z pz
    cases kw with
    | cons _ _ => exact absurd hm Bool.false_ne_true
    | nil =>
      cases xs with
      | nil =>
        obtain ⟨_, h2⟩ := ba hm
        obtain ⟨h3, _⟩ := ba h2
        obtain ⟨_, h4⟩ := ba h3
        obtain ⟨_, h5⟩ := ba h4
        exact absurd h5 Bool.false_ne_true
      | cons x0 xs =>
        obtain ⟨h1, h2⟩ := ba hm
        obtain ⟨h3, h4⟩ := ba h1
        obtain ⟨h5, h6⟩ := ba h3
        obtain ⟨h7, h8⟩ := ba h4
        obtain ⟨h9, h10⟩ := ba h2
        obtain ⟨h11, h12⟩ := ba h9
        obtain ⟨h13, _⟩ := ba h12
        have e1 := of_decide_eq_true h6
        have e2 := of_decide_eq_true h8
        subst e1 e2
        unfold iniB at h5
        cases hc : M.toMe.G.cls c with
        | none => rw [hc] at h5; cases h5
        | some cd =>
          rw [hc] at h5
          exact pe_iniG g hc (ba h5).1 (by simpa using (ba h5).2) h7 h11 (of_decide_eq_true h13) h10 (sEs es X N sc W _ g h10)
  | .bm f o es, X, N, sc, W, x, g, hm => by
    cases x <;> first | exact absurd hm Bool.false_ne_true | skip
    rename_i fn xs kw pos
    cases fn <;> first | exact absurd hm Bool.false_ne_true | skip
    rename_i y name p
    cases kw <;> first | exact absurd hm Bool.false_ne_true | skip
    obtain ⟨h123, h456⟩ := ba hm
    obtain ⟨h1, h23⟩ := ba h123
    obtain ⟨h2, h3⟩ := ba h23
    obtain ⟨h4, h56⟩ := ba h456
    obtain ⟨h5, h6⟩ := ba h56
    exact pe_bmM g h1 (of_decide_eq_true h2) h3 h4 (sE o X N sc W _ g h5) h6 (sEs es X N sc W _ g h6)
  | .lc elt t it cond, X, N, sc, W, x, g, hm => by
    cases x <;> first | exact absurd hm Bool.false_ne_true | skip
    rename_i x' gens scope pos
    match gens, hm with
    | [], hm => exact absurd hm Bool.false_ne_true
    | ⟨_, _, _, _⟩ :: ⟨_, _, _, _⟩ :: _, hm => simp [mE] at hm
    | [⟨tg, iter, ifs, ia⟩], hm =>
      obtain ⟨h012, h3456⟩ := ba hm
      obtain ⟨h0, h12⟩ := ba h012
      obtain ⟨h1, h2⟩ := ba h12
      obtain ⟨h3, h456⟩ := ba h3456
      cases (show ia = 0 from beq_iff_eq.mp h0)
      obtain ⟨h4, h56⟩ := ba h456
      obtain ⟨h5, h6⟩ := ba h56
      exact lcp g h1 h2 (sI it X N sc W tg iter g h3) h4 (fun X' W' g' => sOC cond X' N (relB scope sc) W' ifs g' h5) (fun X' W' g' => sE elt X' N (relB scope sc) W' x' g' h6)
theorem sEs : ∀ (e : Es) (X : Cx) (N : List Str) (sc : Sco) (W : WX) (x : List Expr), Good M X N sc W k → mEs M.toMe N sc e x = true → PA X x (tA M W fun Y => evEs M.G (callS M.G k) Y e)
  | .nil, X, N, sc, W, [], g, hm => pa_nil.wk fun σ H Q ⟨m, l, h, rh, rl, q⟩ => q m H [] (Ex.refl m) (Kp.refl _ H) rh rfl
  | .nil, X, N, sc, W, _ :: _, g, hm => absurd hm Bool.false_ne_true
  | .cons _ _, X, N, sc, W, [], g, hm => absurd hm Bool.false_ne_true
  | .cons e es, X, N, sc, W, x :: xs, g, hm => by
    obtain ⟨h1, h2⟩ := ba hm
    refine (pa_cons (sE e X N sc W _ g h1) (sEs es X N sc W _ g h2) (star_of h1 X.env xs)).wk fun σ H Q q => ?_
    obtain ⟨m, l, h, rh, rl, q⟩ := q
    refine tE_in rh rl (fun _ _ z => z) q fun m1 H1 v w h1 e1 k1 rh1 rl1 rv1 q1 => ?_
    refine tA_in rh1 rl1 (LX.mono e1 k1) q1 fun m2 H2 u w2 h2 e2 k2 rh2 rl2 rv2 q2 => ?_
    exact q2 m2 H2 _ (e1.trans e2) (k1.trans k2) rh2 ⟨w, w2, rfl, rv1.mono k2 e2, rv2⟩
theorem sPs : ∀ (e : Es) (X : Cx) (N : List Str) (sc : Sco) (W : WX) (pos : Pos) (x : List Expr) (ks : List Str) (keys : List (Option Expr)), Good M X N sc W k → mPs M.toMe N sc ks e keys x = true →
    ∃ trs, PPs X pos keys x trs ∧ ∀ σ H R, (∃ m l h, RH M H m h ∧ RL M.K H m l σ ∧ evEs M.G (callS M.G k) (LX M W σ m H) e l h (LKs M m H ks R)) → tPairs trs σ H R
  | .nil, X, N, sc, W, pos, x, ks, keys, g, hm => by
    cases ks <;> cases keys <;> cases x <;> first | exact absurd hm Bool.false_ne_true | skip
    exact ⟨[], pps_nil, fun σ H R ⟨m, l, h, rh, rl, q⟩ => q m H [] (Ex.refl m) (Kp.refl _ H) rh rfl⟩
  | .cons e es, X, N, sc, W, pos, x, ks, keys, g, hm => by
    cases ks with
    | nil => exact absurd hm Bool.false_ne_true
    | cons k0 ks =>
    cases keys with
    | nil => exact absurd hm Bool.false_ne_true
    | cons ko keys =>
    cases ko with
    | none => exact absurd hm Bool.false_ne_true
    | some ke =>
    cases ke <;> first | exact absurd hm Bool.false_ne_true | skip
    rename_i cst kk p2
    cases cst <;> first | exact absurd hm Bool.false_ne_true | skip
    cases x with
    | nil => exact absurd hm Bool.false_ne_true
    | cons y ys =>
    obtain ⟨h12, h3⟩ := ba hm
    obtain ⟨h1, h2⟩ := ba h12
    have e1 := of_decide_eq_true h1
    subst e1
    obtain ⟨trs, hp, ht⟩ := sPs es X N sc W pos ys ks keys g h3
    refine ⟨_, pps_cons pe_str (sE e X N sc W y g h2) hp, fun σ H R ⟨m, l, h, rh, rl, q⟩ => ?_⟩
    show tE M W (fun Y => evE M.G (callS M.G k) Y e) σ H fun y' H1 => tPairs trs σ H1 fun ps H2 => R ((.str k0, y') :: ps) H2
    refine tE_in rh rl (fun _ _ z => z) q fun m1 H1 v w h1 e1 k1 rh1 rl1 rv1 q1 => ?_
    exact ht σ H1 _ ⟨m1, l, h1, rh1, rl1, evEs_mono (csle M k) (LX.mono e1 k1) es _ _ _ _ (fun vs h2 q2 m2 H2 ws e2 k2 rh2 rv2 => q2 m2 H2 (w :: ws) (e1.trans e2) (k1.trans k2) rh2 ⟨w, ws, rfl, rv1.mono k2 e2, rv2⟩) q1⟩
theorem sO : ∀ (e : OE) (X : Cx) (N : List Str) (sc : Sco) (W : WX) (x : Option Expr), Good M X N sc W k → mO M.toMe N sc e x = true → L2.PO X x (tOp M W fun Y => evO M.G (callS M.G k) Y e)
  | .no, X, N, sc, W, none, g, hm => (po_none (X := X)).wk fun σ H Q ⟨m, l, h, rh, rl, q⟩ => q m H (Ex.refl m) (Kp.refl _ H) rh
  | .no, X, N, sc, W, some _, g, hm => absurd hm Bool.false_ne_true
  | .so _, X, N, sc, W, none, g, hm => absurd hm Bool.false_ne_true
  | .so e, X, N, sc, W, some x, g, hm => by
    refine (po_some (sE e X N sc W _ g hm)).wk fun σ H Q q => ?_
    obtain ⟨m, l, h, rh, rl, q⟩ := q
    refine tE_in rh rl (fun _ _ z => z) q fun m1 H1 v w h1 e1 k1 rh1 rl1 rv1 q1 => ?_
    obtain ⟨i, rfl, q1⟩ := q1
    exact ⟨i, rv1, q1 m1 H1 e1 k1 rh1⟩
theorem sT : ∀ (e : C) (X : Cx) (N : List Str) (sc : Sco) (W : WX) (x : Expr), Good M X N sc W k → mC M.toMe N sc e x = true → PT X x (tT M W fun Y => evT M.G (callS M.G k) Y e) ∧ ((∃ op ys p, x = .BoolOp op ys p) → PW X x (tT M W fun Y => evT M.G (callS M.G k) Y e))
  | .v e, X, N, sc, W, x, g, hm => by
    have he := isTrue_of (env := X.env) hm
    refine ⟨?_, fun ⟨op, ys, p, e⟩ => by subst e; exact absurd (ba hm).2 Bool.false_ne_true⟩
    refine (pt_truth (sE e X N sc W _ g (ba hm).1) he).wk fun σ H Q q => ?_
    obtain ⟨m, l, h, rh, rl, q⟩ := q
    refine tE_in rh rl (fun _ _ z => z) q fun m1 H1 v w h1 e1 k1 rh1 rl1 rv1 q1 => ?_
    obtain ⟨b, e, q1⟩ := q1
    refine ⟨b, ?_, q1 m1 H1 e1 k1 rh1⟩
    rw [g.hK]
    exact truV_of rh1 rv1 e
  | .cmp o a b, X, N, sc, W, x, g, hm => by
    cases x <;> first | exact absurd hm Bool.false_ne_true | skip
    rename_i y ops zs pos
    match ops, zs, hm with
    | [], _, hm => exact absurd hm Bool.false_ne_true
    | [_], [], hm => exact absurd hm Bool.false_ne_true
    | [_], _ :: _ :: _, hm => exact absurd hm Bool.false_ne_true
    | _ :: _ :: _, _, hm => exact absurd hm Bool.false_ne_true
    | [p], [z], hm =>
      obtain ⟨h123, h4⟩ := ba hm
      obtain ⟨h12, h3⟩ := ba h123
      obtain ⟨h1, h2⟩ := ba h12
      have e := of_decide_eq_true h1
      subst e
      refine ⟨?_, fun ⟨op, ys, p, e⟩ => nomatch e⟩
      refine (pt_cmpR (sC g.hK g.room.units o) (sE a X N sc W _ g h3) (sE b X N sc W _ g h4) (nb h2)).wk fun σ H Q q => ?_
      obtain ⟨m, l, h, rh, rl, q⟩ := q
      refine tE_in rh rl (fun _ _ z => z) q fun m1 H1 v w h1 e1 k1 rh1 rl1 rv1 q1 => ?_
      refine tE_in rh1 rl1 (LX.mono e1 k1) q1 fun m2 H2 u w2 h2 e2 k2 rh2 rl2 rv2 q2 => ?_
      refine ⟨m2, h2, v, u, rh2, rv1.mono k2 e2, rv2, cmpV_mono (fun r h3 q3 m3 H3 e3 k3 rh3 => ?_) q2⟩
      exact ⟨r, rfl, q3 m3 H3 ((e1.trans e2).trans e3) ((k1.trans k2).trans k3) rh3⟩
  | .chain o o' a b c, X, N, sc, W, x, g, hm => by
    cases x <;> first | exact absurd hm Bool.false_ne_true | skip
    rename_i y ops zs pos
    match ops, zs, hm with
    | [], _, hm => exact absurd hm Bool.false_ne_true
    | [_], _, hm => exact absurd hm Bool.false_ne_true
    | _ :: _ :: _ :: _, _, hm => exact absurd hm Bool.false_ne_true
    | [_, _], [], hm => exact absurd hm Bool.false_ne_true
    | [_, _], [_], hm => exact absurd hm Bool.false_ne_true
    | [_, _], _ :: _ :: _ :: _, hm => exact absurd hm Bool.false_ne_true
    | [p, p'], [z, z'], hm =>
      obtain ⟨h12345, h6⟩ := ba hm
      obtain ⟨h1234, h5⟩ := ba h12345
      obtain ⟨h123, h4⟩ := ba h1234
      obtain ⟨h12, h3⟩ := ba h123
      obtain ⟨h1, h2⟩ := ba h12
      have e := of_decide_eq_true h1
      have e' := of_decide_eq_true h2
      subst e; subst e'
      refine ⟨?_, fun ⟨op, ys, p, e⟩ => nomatch e⟩
      refine (pt_chain (sC g.hK g.room.units o) (sC g.hK g.room.units o') (sE a X N sc W _ g h4) (sE b X N sc W _ g h5) (sE c X N sc W _ g h6) (nb h3)).wk fun σ H Q q => ?_
      obtain ⟨m, l, h, rh, rl, q⟩ := q
      refine tE_in rh rl (fun _ _ z => z) q fun m1 H1 v w h1 e1 k1 rh1 rl1 rv1 q1 => ?_
      refine tE_in rh1 rl1 (LX.mono e1 k1) q1 fun m2 H2 u w2 h2 e2 k2 rh2 rl2 rv2 q2 => ?_
      refine ⟨m2, h2, v, u, rh2, rv1.mono k2 e2, rv2, cmpV_mono (fun r h3 q3 m3 H3 e3 k3 rh3 => ?_) q2⟩
      refine ⟨r, rfl, ?_⟩
      have e13 := (e1.trans e2).trans e3
      have k13 := (k1.trans k2).trans k3
      cases r with
      | false => exact ⟨false, rfl, q3 m3 H3 e13 k13 rh3⟩
      | true =>
        refine tE_in rh3 (rl2.mono k3 e3) (LX.mono e13 k13) q3 fun m4 H4 u4 w4 h4 e4 k4 rh4 rl4 rv4 q4 => ?_
        refine ⟨m4, h4, u, u4, rh4, rv2.mono (k3.trans k4) (e3.trans e4), rv4, cmpV_mono (fun r h5 q5 m5 H5 e5 k5 rh5 => ?_) q4⟩
        exact ⟨r, rfl, q5 m5 H5 ((e13.trans e4).trans e5) ((k13.trans k4).trans k5) rh5⟩
  | .nt a, X, N, sc, W, x, g, hm => by
    cases x <;> first | exact absurd hm Bool.false_ne_true | skip
    rename_i op y pos
    cases op <;> first | exact absurd hm Bool.false_ne_true | skip
    refine ⟨?_, fun ⟨op, ys, p, e⟩ => nomatch e⟩
    refine (pt_not (sT a X N sc W _ g hm).1).wk fun σ H Q q => ?_
    obtain ⟨m, l, h, rh, rl, q⟩ := q
    exact tT_in rh rl (fun _ _ z => z) q fun m1 H1 r h1 e1 k1 rh1 rl1 q1 => q1 m1 H1 e1 k1 rh1
  | .and a b, X, N, sc, W, x, g, hm => by
    cases x <;> first | exact absurd hm Bool.false_ne_true | skip
    rename_i op xs pos
    cases op <;> first | exact absurd hm Bool.false_ne_true | skip
    match xs, hm with
    | [], hm => exact absurd hm Bool.false_ne_true
    | [_], hm => exact absurd hm Bool.false_ne_true
    | y :: z :: r, hm =>
      obtain ⟨h1, h2⟩ := ba hm
      have hb : PW X (.BoolOp .And (z :: r) pos) (tT M W fun Y => evT M.G (callS M.G k) Y b) := by
        cases r with
        | nil => exact pw_and1 (sT b X N sc W _ g h2).1
        | cons z' r' => exact (sT b X N sc W _ g h2).2 ⟨_, _, _, rfl⟩
      have hw : PW X (.BoolOp .And (y :: z :: r) pos) (tT M W fun Y => evT M.G (callS M.G k) Y (.and a b)) := by
        refine (pw_and (sT a X N sc W _ g h1).1 hb).wk fun σ H Q q => ?_
        obtain ⟨m, l, h, rh, rl, q⟩ := q
        refine tT_in rh rl (fun _ _ z => z) q fun m1 H1 r h1 e1 k1 rh1 rl1 q1 => ?_
        cases r with
        | true => exact tT_in rh1 rl1 (LX.mono e1 k1) q1 fun m2 H2 r h2 e2 k2 rh2 rl2 q2 => q2 m2 H2 (e1.trans e2) (k1.trans k2) rh2
        | false => exact q1 m1 H1 e1 k1 rh1
      exact ⟨hw.pt, fun _ => hw⟩
  | .or a b, X, N, sc, W, x, g, hm => by
    cases x <;> first | exact absurd hm Bool.false_ne_true | skip
    rename_i op xs pos
    cases op <;> first | exact absurd hm Bool.false_ne_true | skip
    match xs, hm with
    | [], hm => exact absurd hm Bool.false_ne_true
    | [_], hm => exact absurd hm Bool.false_ne_true
    | y :: z :: r, hm =>
      obtain ⟨h1, h2⟩ := ba hm
      have hb : PW X (.BoolOp .Or (z :: r) pos) (tT M W fun Y => evT M.G (callS M.G k) Y b) := by
        cases r with
        | nil => exact pw_or1 (sT b X N sc W _ g h2).1
        | cons z' r' => exact (sT b X N sc W _ g h2).2 ⟨_, _, _, rfl⟩
      have hw : PW X (.BoolOp .Or (y :: z :: r) pos) (tT M W fun Y => evT M.G (callS M.G k) Y (.or a b)) := by
        refine (pw_or (sT a X N sc W _ g h1).1 hb).wk fun σ H Q q => ?_
        obtain ⟨m, l, h, rh, rl, q⟩ := q
        refine tT_in rh rl (fun _ _ z => z) q fun m1 H1 r h1 e1 k1 rh1 rl1 q1 => ?_
        cases r with
        | false => exact tT_in rh1 rl1 (LX.mono e1 k1) q1 fun m2 H2 r h2 e2 k2 rh2 rl2 q2 => q2 m2 H2 (e1.trans e2) (k1.trans k2) rh2
        | true => exact q1 m1 H1 e1 k1 rh1
      exact ⟨hw.pt, fun _ => hw⟩
theorem sOC : ∀ (e : OC) (X : Cx) (N : List Str) (sc : Sco) (W : WX) (x : List Expr), Good M X N sc W k → mOC M.toMe N sc e x = true → PTs X x (tT M W fun Y => evC M.G (callS M.G k) Y e)
  | .no, X, N, sc, W, [], g, hm => pts_wk pts_nil fun σ H Q ⟨m, l, h, rh, rl, q⟩ => q m H (Ex.refl m) (Kp.refl _ H) rh
  | .no, X, N, sc, W, _ :: _, g, hm => absurd hm Bool.false_ne_true
  | .so _, X, N, sc, W, [], g, hm => absurd hm Bool.false_ne_true
  | .so _, X, N, sc, W, _ :: _ :: _, g, hm => absurd hm Bool.false_ne_true
  | .so e, X, N, sc, W, [x], g, hm => pts_wk (pts_one (sT e X N sc W x g hm).1) fun σ H Q q => q
theorem sI : ∀ (it : I) (X : Cx) (N : List Str) (sc : Sco) (W : WX) (tg x : Expr), Good M X N sc W k → mI M.toMe N sc tg it x = true → PI X tg x (tI M W fun Y => evI M.G (callS M.G k) Y it) ∧ notSet x = true
  | .seq a, X, N, sc, W, tg, x, g, hm => by
    obtain ⟨h1, h2⟩ := ba hm
    exact ⟨pi_seq g (sE a X N sc W x g h1), h2⟩
  | .rng1 a, X, N, sc, W, tg, x, g, hm => by
    cases x <;> first | exact absurd hm Bool.false_ne_true | skip
    rename_i fn xs kw pos
    cases fn <;> first | exact absurd hm Bool.false_ne_true | skip
    rename_i id p
    match xs, kw, hm with
    | [], _, hm => exact absurd hm Bool.false_ne_true
    | _ :: _ :: _, _, hm => simp [mI] at hm
    | [_], _ :: _, hm => simp [mI] at hm
    | [y], [], hm =>
      obtain ⟨h12, h3⟩ := ba hm
      obtain ⟨h1, h2⟩ := ba h12
      have e := of_decide_eq_true h1
      subst e
      obtain ⟨g1, g2⟩ := gl_of g h2
      refine ⟨(pi_range1 g1 (g.glo.free _ (blt_in (.inl rfl))) (pa_cons (sE a X N sc W y g h3) pa_nil (star_of h3 X.env _)) (star_of h3 X.env _)).wk fun σ H R q => ?_, rfl⟩
      obtain ⟨m, l, h, rh, rl, q⟩ := q
      refine tE_in rh rl (fun _ _ z => z) q fun m1 H1 v w h1 e1 k1 rh1 rl1 rv1 q1 => ?_
      obtain ⟨j, rfl, q2, q3⟩ := q1
      cases (show w = .int j from rv1)
      exact ⟨j, rfl, q2.1, q2.2, q3 m1 H1 _ e1 k1 rh1 wk_range⟩
  | .rng2 a b, X, N, sc, W, tg, x, g, hm => by
    cases x <;> first | exact absurd hm Bool.false_ne_true | skip
    rename_i fn xs kw pos
    cases fn <;> first | exact absurd hm Bool.false_ne_true | skip
    rename_i id p
    match xs, kw, hm with
    | [], _, hm => exact absurd hm Bool.false_ne_true
    | [_], _, hm => exact absurd hm Bool.false_ne_true
    | _ :: _ :: _ :: _, _, hm => simp [mI] at hm
    | [_, _], _ :: _, hm => simp [mI] at hm
    | [y, z], [], hm =>
      obtain ⟨h12, h34⟩ := ba hm
      obtain ⟨h1, h2⟩ := ba h12
      obtain ⟨h3, h4⟩ := ba h34
      have e := of_decide_eq_true h1
      subst e
      obtain ⟨g1, g2⟩ := gl_of g h2
      refine ⟨(pi_range2 g1 (g.glo.free _ (blt_in (.inl rfl))) (pa_cons (sE a X N sc W y g h3) (pa_cons (sE b X N sc W z g h4) pa_nil (star_of h4 X.env _)) (star_of h3 X.env _)) (by rw [star_of h3 X.env, star_of h4 X.env] <;> rfl) (star_of h4 X.env _)).wk fun σ H R q => ?_, rfl⟩
      obtain ⟨m, l, h, rh, rl, q⟩ := q
      refine tE_in rh rl (fun _ _ z => z) q fun m1 H1 v w h1 e1 k1 rh1 rl1 rv1 q1 => ?_
      refine tE_in rh1 rl1 (LX.mono e1 k1) q1 fun m2 H2 u w2 h2 e2 k2 rh2 rl2 rv2 q2 => ?_
      obtain ⟨i, j, rfl, rfl, q3, q4⟩ := q2
      cases (show w = .int i from rv1)
      cases (show w2 = .int j from rv2)
      exact ⟨i, j, rfl, q3, q4 m2 H2 _ (e1.trans e2) (k1.trans k2) rh2 wk_range⟩
  | .enu a, X, N, sc, W, tg, x, g, hm => by
    cases x <;> first | exact absurd hm Bool.false_ne_true | skip
    rename_i fn xs kw pos
    cases fn <;> first | exact absurd hm Bool.false_ne_true | skip
    rename_i id p
    match xs, kw, hm with
    | [], _, hm => exact absurd hm Bool.false_ne_true
    | _ :: _ :: _, _, hm => simp [mI] at hm
    | [_], _ :: _, hm => simp [mI] at hm
    | [y], [], hm =>
      obtain ⟨h12, h34⟩ := ba hm
      obtain ⟨h1, h2⟩ := ba h12
      obtain ⟨h3, h4⟩ := ba h34
      have e := of_decide_eq_true h1
      subst e
      obtain ⟨g1, g2⟩ := gl_of g h2
      cases tg <;> first | exact absurd h4 Bool.false_ne_true | skip
      refine ⟨(pi_enum g1 (g.glo.free _ (blt_in (.inr (.inl rfl)))) (pa_cons (sE a X N sc W y g h3) pa_nil (star_of h3 X.env _)) (star_of h3 X.env _)).wk fun σ H R q => ?_, rfl⟩
      obtain ⟨m, l, h, rh, rl, q⟩ := q
      refine tE_in rh rl (fun _ _ z => z) q fun m1 H1 v w h1 e1 k1 rh1 rl1 rv1 q1 => ?_
      obtain ⟨zs, q2, q3⟩ := q1
      obtain ⟨p, vs, rfl, e3, e4⟩ := lstOf_get rh1 rv1 q2
      exact ⟨p, vs, rfl, by rw [g.hK]; exact e3, by rw [g.hK]; exact q3 m1 H1 _ e1 k1 rh1 (wk_enum rv1 (lst_ref q2))⟩
  | .zip2 a b, X, N, sc, W, tg, x, g, hm => by
    cases x <;> first | exact absurd hm Bool.false_ne_true | skip
    rename_i fn xs kw pos
    cases fn <;> first | exact absurd hm Bool.false_ne_true | skip
    rename_i id p
    match xs, kw, hm with
    | [], _, hm => exact absurd hm Bool.false_ne_true
    | [_], _, hm => exact absurd hm Bool.false_ne_true
    | _ :: _ :: _ :: _, _, hm => simp [mI] at hm
    | [_, _], _ :: _, hm => simp [mI] at hm
    | [y, z], [], hm =>
      obtain ⟨h12, h345⟩ := ba hm
      obtain ⟨h1, h2⟩ := ba h12
      obtain ⟨h34, h5⟩ := ba h345
      obtain ⟨h3, h4⟩ := ba h34
      have e := of_decide_eq_true h1
      subst e
      obtain ⟨g1, g2⟩ := gl_of g h2
      cases tg <;> first | exact absurd h5 Bool.false_ne_true | skip
      refine ⟨(pi_zipS g1 (g.glo.free _ (blt_in (.inr (.inr (.inl rfl))))) (pa_cons (sE a X N sc W y g h3) (pa_cons (sE b X N sc W z g h4) pa_nil (star_of h4 X.env _)) (star_of h3 X.env _)) (star_of h3 X.env _) (by rw [star_of h4 X.env] <;> rfl)).wk fun σ H R q => ?_, rfl⟩
      obtain ⟨m, l, h, rh, rl, q⟩ := q
      refine tE_in rh rl (fun _ _ z => z) q fun m1 H1 v w h1 e1 k1 rh1 rl1 rv1 q1 => ?_
      refine tE_in rh1 rl1 (LX.mono e1 k1) q1 fun m2 H2 u w2 h2 e2 k2 rh2 rl2 rv2 q2 => ?_
      obtain ⟨xs, ys, q3, q4, q5⟩ := q2
      have rv1' := rv1.mono k2 e2
      obtain ⟨p', ws, rfl, e5, e6⟩ := lstOf_get rh2 rv2 q4
      cases v with
      | tup zs =>
        cases (show zs = xs from Option.some.inj q3)
        obtain ⟨p, vs, rfl, e3, e4⟩ := rv1'
        exact ⟨p, p', vs, ws, rfl, by rw [g.hK]; exact e5, .inr ⟨by rw [g.hK]; exact e3, by rw [g.hK]; exact q5 m2 H2 _ (e1.trans e2) (k1.trans k2) rh2 (wk_zipM e3 e4 rv2 (lst_ref q4))⟩⟩
      | ref a =>
        obtain ⟨p, vs, rfl, e3, e4⟩ := lstOf_get rh2 rv1' q3
        exact ⟨p, p', vs, ws, rfl, by rw [g.hK]; exact e5, .inl ⟨by rw [g.hK]; exact e3, by rw [g.hK]; exact q5 m2 H2 _ (e1.trans e2) (k1.trans k2) rh2 (wk_zip rv1' (lst_ref q3) rv2 (lst_ref q4))⟩⟩
      | _ => cases q3
  | .rev a, X, N, sc, W, tg, x, g, hm => by
    cases x <;> first | exact absurd hm Bool.false_ne_true | skip
    rename_i fn xs kw pos
    cases fn <;> first | exact absurd hm Bool.false_ne_true | skip
    rename_i id p
    match xs, kw, hm with
    | [], _, hm => exact absurd hm Bool.false_ne_true
    | _ :: _ :: _, _, hm => simp [mI] at hm
    | [_], _ :: _, hm => simp [mI] at hm
    | [y], [], hm =>
      obtain ⟨h12, h3⟩ := ba hm
      obtain ⟨h1, h2⟩ := ba h12
      have e := of_decide_eq_true h1
      subst e
      obtain ⟨g1, g2⟩ := gl_of g h2
      refine ⟨(pi_reversed g1 (g.glo.free _ (blt_in (.inr (.inr (.inr rfl))))) (pa_cons (sE a X N sc W y g h3) pa_nil (star_of h3 X.env _)) (star_of h3 X.env _)).wk fun σ H R q => ?_, rfl⟩
      obtain ⟨m, l, h, rh, rl, q⟩ := q
      refine tE_in rh rl (fun _ _ z => z) q fun m1 H1 v w h1 e1 k1 rh1 rl1 rv1 q1 => ?_
      obtain ⟨zs, q2, q3⟩ := q1
      obtain ⟨p, vs, rfl, e3, e4⟩ := lstOf_get rh1 rv1 q2
      refine ⟨p, vs, rfl, by rw [g.hK]; exact e3, ?_⟩
      rw [g.hK, ← e4.len]
      exact q3 m1 H1 _ e1 k1 rh1 (wk_rev rv1 (lst_ref q2))

end
mutual
theorem sG : ∀ (t : T) (dc : Bool) (X : Cx) (N : List Str) (sc : Sco) (W : WX) (Y : KX) (x : Expr), Good M X N sc W k → (dc = true → ∀ x, sc.lookup x = some .cell → X.fn x = true) → mT M.toMe dc N sc t x = true → PG X x (tG M fun v => evG M.G (callS M.G k) Y t v)
  | .nm i, dc, X, N, sc, W, Y, x, g, hc, hm => by
    cases x <;> first | exact absurd hm Bool.false_ne_true | skip
    obtain ⟨h1, h2⟩ := ba hm
    obtain ⟨l1, l2⟩ := loc_of g hc h2
    refine (pg_name (i := i) (by rw [g.hN]; exact g.nd) (by rw [g.hN]; exact of_decide_eq_true h1) l1 l2).wk fun w σ H Q q => ?_
    obtain ⟨m, l, h, v, rh, rl, rv, q⟩ := q
    exact q.2 m H _ (Ex.refl m) (Kp.refl _ H) rh (rl.set rv)
  | .tup ts, dc, X, N, sc, W, Y, x, g, hc, hm => by
    cases x <;> first | exact absurd hm Bool.false_ne_true | skip
    rename_i xs kk pos
    have hm : mTs M.toMe dc N sc ts xs = true := hm
    obtain ⟨a1, a2⟩ := as_len X.env hm
    refine (pg_two (n := xs.length) g.calm (sGs ts dc X N sc W Y xs g hc hm) a1 a2).wk fun w σ H Q q => ?_
    obtain ⟨m, l, h, v, rh, rl, rv, vs, es, el, q⟩ := q
    cases v with
    | tup zs =>
      cases (show zs = vs from Option.some.inj es)
      obtain ⟨p, ws, rfl, e1, e2⟩ := rv
      exact .inl ⟨p, ws, rfl, by rw [g.hK]; exact e1, by rw [← e2.len, el]; exact lenTs_of hm, m, l, h, _, rh, rl, e2, q⟩
    | ref a =>
      obtain ⟨p, ws, rfl, e1, e2⟩ := lstOf_get rh rv es
      exact .inr ⟨p, ws, rfl, by rw [g.hK]; exact e1, by rw [← e2.len, el]; exact lenTs_of hm, m, l, h, _, rh, rl, e2, q⟩
    | _ => cases es
  | .attr _ _, dc, X, N, sc, W, Y, x, g, hc, hm => absurd hm (by cases x <;> exact Bool.false_ne_true)
  | .sub _ _, dc, X, N, sc, W, Y, x, g, hc, hm => absurd hm (by cases x <;> exact Bool.false_ne_true)
theorem sGs : ∀ (ts : Ts) (dc : Bool) (X : Cx) (N : List Str) (sc : Sco) (W : WX) (Y : KX) (xs : List Expr), Good M X N sc W k → (dc = true → ∀ x, sc.lookup x = some .cell → X.fn x = true) → mTs M.toMe dc N sc ts xs = true → PGs X xs (tGs M fun v => evGs M.G (callS M.G k) Y ts v)
  | .nil, dc, X, N, sc, W, Y, [], g, hc, hm => pgs_nil.wk fun w σ H Q q => by
    obtain ⟨m, l, h, v, rh, rl, rv, e, q⟩ := q
    subst e
    exact ⟨rv, q m H σ (Ex.refl m) (Kp.refl _ H) rh rl⟩
  | .nil, dc, X, N, sc, W, Y, _ :: _, g, hc, hm => absurd hm Bool.false_ne_true
  | .cons _ _, dc, X, N, sc, W, Y, [], g, hc, hm => absurd hm Bool.false_ne_true
  | .cons t ts, dc, X, N, sc, W, Y, x :: xs, g, hc, hm => by
    obtain ⟨h1, h2⟩ := ba hm
    refine (pgs_cons (sG t dc X N sc W Y x g hc h1) (sGs ts dc X N sc W Y xs g hc h2) (by rw [as_each h1 X.env] <;> rfl)).wk fun w σ H Q q => ?_
    obtain ⟨m, l, h, v, rh, rl, rv, y, r, e, q⟩ := q
    subst e
    obtain ⟨w1, wr, rfl, r1, r2⟩ := rv
    refine ⟨w1, wr, rfl, m, l, h, y, rh, rl, r1, evG_mono (csle M k) (fun _ _ z => z) t y l h _ _ (fun l1 h1 q1 m1 H1 σ1 e1 k1 rh1 rl1 => ?_) q⟩
    exact ⟨m1, l1, h1, r, rh1, rl1, r2.mono k1 e1, evGs_mono (csle M k) (fun _ _ z => z) ts r l1 h1 _ _ (fun l2 h2 => LG.mono e1 k1 l2 h2) q1⟩
end
end
end Py

set_option Elab.async false
set_option linter.all false
set_option maxRecDepth 100000
set_option maxHeartbeats 4000000
/-! PySound6: statements. -/
namespace Py
open PySem PySem.Spec PyProof.Rows L2
def tupTup : Expr → Expr → Bool
  | .Tuple ts _ _, .Tuple .. => ts.length == 2 || ts.length == 3
  | .List .., .Tuple .. => true
  | _, _ => false
def isStarB : Expr → Bool
  | .Starred .. => true
  | _ => false
def parT : T → Bool
  | .tup (.cons (.nm i) (.cons (.nm j) .nil)) => !(i == j)
  | _ => false
def notComp : Expr → Bool
  | .ListComp .. => false
  | .SetComp .. => false
  | .DictComp .. => false
  | _ => true
/-- x, y = a, b: two stores in turn -/
def parB (sc : Sco) : Expr → Expr → Bool
  | .Tuple [.Name x p, .Name y q] _ _, .Tuple [a, b] _ _ => ((sc.lookup x == some .local && sc.lookup y == some .local) && (p.line == q.line && !(x == y))) && (!(foldedForSure 8 a && foldedForSure 8 b) && (!(constantsAlone 8 a && constantsAlone 8 b) && (!(isStarB a) && !(isStarB b))))
  | _, _ => false
def isLC : Expr → Bool
  | .ListComp .. => true
  | _ => false
/-- x = [..] that is handed over before the block is left -/
def swB (sc : Sco) (x y : Expr) : Bool := match x, y with
  | .Name t pos, .ListComp _ _ scope p => sc.lookup t == some .local && pos.line == p.line && !(scope.names.any fun (n, k) => n == t && (k == .local || k == .cell))
  | _, _ => false
mutual
def mS (M : Me) (dc : Bool) (N : List Str) (sc : Sco) : S → Stmt → Bool
  | .asg (.attr o f) e, .Assign [.Attribute x y _] z _ => decide (M.nm f = y) && (mE M N sc o x && (mE M N sc e z && (notComp z || isLC z)))
  | .asg (.sub o i) e, .Assign [.Subscript x y _] z _ => mE M N sc o x && (mE M N sc i y && (mE M N sc e z && (notComp z || isLC z)))
  | .asg t e, .Assign [x] y _ => (mT M dc N sc t x && mE M N sc e y) && ((!tupTup x y || (parB sc x y && parT t)) && (notComp y || isLC y))
  | .augF ob f o e, .AugAssign (.Attribute x y _) p z _ => decide (M.nm f = y) && (mE M N sc ob x && (bopB o p && mE M N sc e z))
  | .aug i o e, .AugAssign (.Name x _) p y _ => (decide (N[i]? = some x) && locB dc sc x) && (bopB o p && mE M N sc e y)
  | .exp e, .Expr y _ => mE M N sc e y && notComp y
  | .ret e, .Return (some y) _ => mE M N sc e y
  | .retN, .Return none _ => true
  | .ife c a b, .If x xs ys _ => mC M N sc c x && (mB M dc N sc a xs && mB M dc N sc b ys)
  | .for t it b, .For tg x xs [] _ => (mI M N sc tg it x && mT M dc N sc t tg) && mB M dc N sc b xs
  | .whl c b, .While x xs [] _ => mC M N sc c x && mB M dc N sc b xs
  | .pas, .Pass _ => true
  | .cont, .Continue _ => true
  | .rai0, .Raise _ _ _ => true
  | _, _ => false
def mB (M : Me) (dc : Bool) (N : List Str) (sc : Sco) : B → List Stmt → Bool
  | .nil, [] => true
  | .cons s b, x :: xs => mS M dc N sc s x && mB M dc N sc b xs
  | _, _ => false
end
def LN (M : Mo) (W : WX) (m : List Addr) (H : Hp) (D : Ends) : En where
  nx := LG M m H D.nx
  rt := LQ M m H D.rt
  ct := LG M m H D.ct
  ex := fun x l' h' => ∀ (m' : List Addr) (H' : Hp) (σ' : L2.St) (cls : Value) (d : Option Addr), Ex m m' → Kp M.K H H' → RH M H' m' h' → RL M.K H' m' l' σ' → RX M H' m' x cls d → W cls d σ' H'
theorem LN.le {M : Mo} {W : WX} {m m1 : List Addr} {H H1 : Hp} {D : Ends} (e : Ex m m1) (k : Kp M.K H H1) : Enle (LN M W m H D) (LN M W m1 H1 D) :=
  ⟨LG.mono e k, LQ.mono e k, LG.mono e k, fun x l h q m' H' σ' c d e' k' r rl rx => q m' H' σ' c d (e.trans e') (k.trans k') r rl rx⟩
theorem LN.ex_ {M : Mo} {W : WX} {m m1 : List Addr} {H H1 : Hp} {D : Ends} {l : Py.Loc} {σ : L2.St} (e : Ex m m1) (k : Kp M.K H H1) (rl : RL M.K H1 m1 l σ) : ∀ x h, (LN M W m H D).ex x l h → LX M W σ m1 H1 x h :=
  fun x h q m' H' c d e' k' r rx => q m' H' σ c d (e.trans e') (k.trans k') r (rl.mono k' e') rx
abbrev DS := Py.Loc → PH → En → Prop
def tS (M : Mo) (W : WX) (d : DS) : TS := fun D σ H => ∃ m l h, RH M H m h ∧ RL M.K H m l σ ∧ d l h (LN M W m H D)
structure GoodS (M : Mo) (X : Cx) (N : List Str) (sc : Sco) (W : WX) (k : Nat) (dc : Bool) : Prop where
  g : Good M X N sc W k
  pas : PassesOwn (model X.prog X.w) X.A X.env X.xe
  cel : dc = true → ∀ x, sc.lookup x = some .cell → X.fn x = true
theorem notComp_sw {y : Expr} {t : Option Expr} {n : Nat} {env : Env} (h : notComp y = true) : swapsWith y t n env = pure false := by
  cases y <;> first | rfl | exact absurd h Bool.false_ne_true
theorem sw_swB {x y : Expr} {n : Nat} {env : Env} (h : (notComp y || isLC y) = true) (hk : env.blockKind = .function) : swapsWith y (some x) n env = pure (swB env.scope.names x y) := by
  cases y with
  | ListComp e gs scope p =>
    cases x with
    | Name t pos =>
      show (pure _ : Sem Bool) = _
      have e1 : (env.blockKind == ScopeKind.function) = true := by rw [hk]; rfl
      simp only [swB, e1, Bool.true_and]
      rfl
    | _ => rfl
  | SetComp e gs scope p => exact absurd h Bool.false_ne_true
  | DictComp e e' gs scope p => exact absurd h Bool.false_ne_true
  | _ => cases x <;> rfl
theorem sw_none {x y : Expr} {env : Env} (h : tupTup x y = false) : swappedStores [x] y env = pure none := by
  cases x with
  | Tuple ts k p =>
    cases y with
    | Tuple vs k2 p2 =>
      have h : (ts.length == 2 || ts.length == 3) = false := h
      unfold swappedStores
      dsimp only
      rw [h]
      rfl
    | _ => rfl
  | List ts p =>
    cases y with
    | Tuple vs k2 p2 => cases h
    | _ => rfl
  | _ => rfl
theorem sw_par {x y : Str} {p q pt pt2 : Pos} {a b : Expr} {kt k2 : Nat} {env : Env} (h : parB env.scope.names (.Tuple [.Name x p, .Name y q] kt pt) (.Tuple [a, b] k2 pt2) = true) (hk : env.blockKind = .function) :
    swappedStores [.Tuple [.Name x p, .Name y q] kt pt] (.Tuple [a, b] k2 pt2) env = pure (some [x, y]) := by
  obtain ⟨h12, h3⟩ := ba h
  obtain ⟨h1, h2⟩ := ba h12
  obtain ⟨l1, l2⟩ := ba h1
  obtain ⟨n1, n2⟩ := ba h2
  obtain ⟨f1, f2⟩ := ba h3
  obtain ⟨c1, s12⟩ := ba f2
  obtain ⟨s1, s2⟩ := ba s12
  have l1' : (env.kindOf x == some .local) = true := l1
  have l2' : (env.kindOf y == some .local) = true := l2
  have eq1 : p.line = q.line := beq_iff_eq.mp n1
  have ne : (x == y) = false := nb n2
  have ne2 : (y == x) = false := by
    rw [beq_eq_false_iff_ne] at ne ⊢
    exact Ne.symm ne
  have st : ∀ f : Expr → Bool, (∀ e, f e = isStarB e) → [a, b].any f = false := fun f hf => by
    show (f a || (f b || false)) = false
    rw [hf, hf, nb s1, nb s2]; rfl
  have ff : [a, b].all (foldedForSure 8) = false := by
    show (foldedForSure 8 a && (foldedForSure 8 b && true)) = false
    rw [Bool.and_true]; exact nb f1
  have cc : [a, b].all (constantsAlone 8) = false := by
    show (constantsAlone 8 a && (constantsAlone 8 b && true)) = false
    rw [Bool.and_true]; exact nb c1
  have bk : (env.blockKind != .function) = false := by rw [hk]; rfl
  have fm : ∀ f : Expr → Option Str, f (.Name x p) = some x → f (.Name y q) = some y → [Expr.Name x p, .Name y q].filterMap f = [x, y] := fun f e1 e2 => by
    simp only [List.filterMap_cons, e1, e2, List.filterMap_nil]
  have dd : ([x, y].eraseDups.length != [x, y].length) = false := by
    have : [x, y].eraseDups = [x, y] := by simp [List.eraseDups, List.eraseDupsBy, List.eraseDupsBy.loop, ne2, ne]
    rw [this]; rfl
  have q1 : (env.kindOf x == some .local && p.line == p.line) = true := by rw [l1', beq_self_eq_true]; rfl
  have q2 : (env.kindOf y == some .local && q.line == p.line) = true := by rw [l2', ← eq1, beq_self_eq_true]; rfl
  unfold swappedStores
  dsimp only
  rw [bk]
  simp only [List.length_cons, List.length_nil, Nat.reduceAdd, beq_self_eq_true, Bool.true_or, Bool.not_true, bne_self_eq_false, Bool.or_false, Bool.false_eq_true, if_false, pure_bind]
  rw [st _ (fun e => by cases e <;> rfl), fm _ (if_pos q1) (if_pos q2), dd, ff, cc]
  rfl
section
variable {M : Mo} {k : Nat}
theorem bk_of {X : Cx} {N : List Str} {sc : Sco} {W : WX} (g : Good M X N sc W k) : X.env.blockKind = .function := by unfold Env.blockKind; rw [g.kd]; rfl
/-- name = [..], handed over -/
theorem asg_lc {X : Cx} {N : List Str} {sc : Sco} {W : WX} {dc : Bool} (g : GoodS M X N sc W k dc) {t : T} {e : E} {z y : Expr} {pos : Pos} (he : PE X y (tE M W fun Y => evE M.G (callS M.G k) Y e)) (h1 : mT M.toMe dc N sc t z = true) (h2 : mE M.toMe N sc e y = true)
    (h4 : (notComp y || isLC y) = true) (hsw : swB sc z y = true) : PS X (.Assign [z] y pos) (tS M W fun l h D => evS M.G (callS M.G k) (.asg t e) l h D) := by
  cases z with
  | Name nm py =>
    cases y with
    | ListComp x' gens scope p =>
      cases t <;> first | exact absurd h1 Bool.false_ne_true | skip
      rename_i i
      cases e <;> first | exact absurd h2 Bool.false_ne_true | (rename_i f a; cases a <;> exact absurd h2 Bool.false_ne_true) | skip
      rename_i elt t' it cond
      match gens, h2, he, hsw, h4 with
      | [], h2, he, hsw, h4 => exact absurd h2 Bool.false_ne_true
      | ⟨_, _, _, _⟩ :: ⟨_, _, _, _⟩ :: _, h2, he, hsw, h4 => simp [mE] at h2
      | [⟨tg, iter, ifs, ia⟩], h2, he, hsw, h4 =>
        obtain ⟨h012, h3456⟩ := ba h2
        obtain ⟨h0, h12⟩ := ba h012
        obtain ⟨t1, t2⟩ := ba h12
        obtain ⟨t3, h456⟩ := ba h3456
        obtain ⟨t4, h56⟩ := ba h456
        obtain ⟨t5, t6⟩ := ba h56
        cases (show ia = 0 from beq_iff_eq.mp h0)
        obtain ⟨n1, n2⟩ := ba h1
        have ok := blk_ok g.g t2
        have kd : scope.kind = .function := ok.kind
        have hi := sI it X N sc W tg iter g.g t3
        have loc : X.env.scope.names.lookup nm = some .local := by
          rw [g.g.sc]
          obtain ⟨a, _⟩ := ba hsw
          obtain ⟨a, _⟩ := ba a
          exact beq_iff_eq.mp a
        have p := ps_setLc (i := i) (y := nm) (py := py) (spos := pos) (pos := p) (te := tE M (fun _ _ _ _ => False) fun Y => evE M.G (callS M.G k) Y elt) g.g.calm (by rw [g.g.hN]; exact g.g.nd) (by rw [g.g.hN]; exact of_decide_eq_true n1) loc
          (by rw [sw_swB h4 (bk_of g.g), g.g.sc, hsw]) hi.1 ok (fun s H C cl fp => sGn t' _ N (relB scope sc) _ (fun _ _ => False) tg (tNs t') (g.g.blk s H C cl fp kd) t1 (fun _ h => h) t4)
          (fun s H C cl fp => sOC cond _ N (relB scope sc) _ ifs (g.g.blk s H C cl fp kd) t5) (fun s H C cl fp => sE elt _ N (relB scope sc) _ x' (g.g.blk s H C cl fp kd) t6) (Py.fold_of hi.2 X.env)
        rw [own_ix] at p
        refine p.wk fun D σ H q => ?_
        obtain ⟨m, l, h, rh, rl, q⟩ := q
        have q : evE M.G (callS M.G k) (fun x h' => (LN M W m H D).ex x l h') (.lc elt t' it cond) l h fun v h1 => evG M.G (callS M.G k) (fun x h' => (LN M W m H D).ex x l h') (.nm i) v l h1 (LN M W m H D).nx := q
        refine lc_in (W := W) (tE_in rh rl (LN.ex_ (D := D) (Ex.refl m) (Kp.refl _ H) rl) q fun m1 H1 v w h1 e1 k1 rh1 rl1 rv1 q1 => ?_)
        exact q1.2 m1 H1 _ e1 k1 rh1 (rl1.set rv1)
    | _ => exact absurd hsw Bool.false_ne_true
  | _ => cases y <;> exact absurd hsw Bool.false_ne_true
theorem drop_cons {α : Type} {xs : List α} {i : Nat} {x : α} (h : xs[i]? = some x) : xs.drop i = x :: xs.drop (i + 1) := by
  obtain ⟨h1, h2⟩ := List.getElem?_eq_some_iff.mp h
  rw [List.drop_eq_getElem_cons h1, h2]
theorem getN_putN {f g : Nat} {v : PV} : ∀ {fs : List (Nat × PV)}, getN g (putN f v fs) = if g = f then some v else getN g fs
  | [] => by
    show (if f = g then some v else none) = _
    by_cases h : g = f
    · rw [if_pos h, if_pos h.symm]
    · rw [if_neg h, if_neg (Ne.symm h)]; rfl
  | (a, x) :: r => by
    unfold putN
    by_cases ha : a = f
    · rw [if_pos ha]
      subst ha
      show (if a = g then some v else getN g r) = if g = a then some v else (if a = g then some x else getN g r)
      by_cases h : g = a
      · rw [if_pos h, if_pos h.symm]
      · rw [if_neg h, if_neg (Ne.symm h), if_neg (Ne.symm h)]
    · rw [if_neg ha]
      show (if a = g then some x else getN g (putN f v r)) = if g = f then some v else (if a = g then some x else getN g r)
      rw [getN_putN]
      by_cases h : a = g
      · rw [if_pos h, if_pos h, if_neg (fun z => ha (h.trans z))]
      · rw [if_neg h, if_neg h]
theorem len_putN {f : Nat} {v : PV} : ∀ {fs : List (Nat × PV)}, (putN f v fs).length = if (getN f fs).isSome = true then fs.length else fs.length + 1
  | [] => rfl
  | (a, x) :: r => by
    unfold putN getN
    by_cases ha : a = f
    · rw [if_pos ha, if_pos ha]; rfl
    · rw [if_neg ha, if_neg ha, List.length_cons, len_putN]
      split <;> rfl
theorem len_putF {f : Str} {v : V} : ∀ {fs : List (Str × V)}, (putF f v fs).length = if (fs.lookup f).isSome = true then fs.length else fs.length + 1
  | [] => rfl
  | (a, x) :: r => by
    unfold putF
    have e : List.lookup f ((a, x) :: r) = match f == a with | true => some x | false => r.lookup f := rfl
    by_cases ha : a = f
    · have h2 : (f == a) = true := beq_iff_eq.mpr ha.symm
      rw [if_pos ha, e, h2]; rfl
    · have h2 : (f == a) = false := beq_eq_false_iff_ne.mpr (Ne.symm ha)
      rw [if_neg ha, e, h2, List.length_cons, len_putF]
      split <;> rfl
theorem keys_putF {f : Str} {v : V} {s : Str} : ∀ {fs : List (Str × V)}, s ∈ (putF f v fs).map (·.1) → s = f ∨ s ∈ fs.map (·.1)
  | [], h => .inl (List.mem_singleton.mp h)
  | (a, x) :: r, h => by
    unfold putF at h
    split at h
    · exact .inr h
    · rcases List.mem_cons.mp h with h | h
      · exact .inr (h ▸ List.mem_cons_self ..)
      · exact (keys_putF h).imp id (List.mem_cons_of_mem _)
/-- two names, two values -/
theorem asg_par {X : Cx} {N : List Str} {sc : Sco} {W : WX} {dc : Bool} (g : GoodS M X N sc W k dc) {t : T} {e : E} {z y : Expr} {pos : Pos} (h1 : mT M.toMe dc N sc t z = true) (h2 : mE M.toMe N sc e y = true) (h5 : parB sc z y = true) (h6 : parT t = true) :
    PS X (.Assign [z] y pos) (tS M W fun l h D => evS M.G (callS M.G k) (.asg t e) l h D) := by
  unfold parB at h5
  split at h5
  case h_2 => cases h5
  rename_i x1 p1 x2 p2 kt pt a b k2 pt2
  have h5' : parB X.env.scope.names (.Tuple [.Name x1 p1, .Name x2 p2] kt pt) (.Tuple [a, b] k2 pt2) = true := by rw [g.g.sc]; exact h5
  have hw := sw_par (k2 := k2) (pt2 := pt2) (kt := kt) (pt := pt) h5' (bk_of g.g)
  unfold parT at h6
  split at h6
  case h_2 => cases h6
  rename_i i j
  have hij : i ≠ j := by simpa using h6
  obtain ⟨m1, m2⟩ := ba (show (mT M.toMe dc N sc (.nm i) (.Name x1 p1) && (mT M.toMe dc N sc (.nm j) (.Name x2 p2) && true)) = true from h1)
  have m2 := (ba m2).1
  obtain ⟨n1, _⟩ := ba m1
  obtain ⟨n2, _⟩ := ba m2
  obtain ⟨q1, _⟩ := ba h5
  obtain ⟨q1, _⟩ := ba q1
  obtain ⟨l1, l2⟩ := ba q1
  cases e <;> first | exact absurd h2 Bool.false_ne_true | (rename_i f a; cases a <;> exact absurd h2 Bool.false_ne_true) | skip
  rename_i es
  have h2 : mEs M.toMe N sc es [a, b] = true := h2
  refine (ps_par (i := i) (j := j) g.g.calm (by rw [g.g.hN]; exact g.g.nd) (by rw [g.g.hN]; exact of_decide_eq_true n1) (by rw [g.g.hN]; exact of_decide_eq_true n2) hij (by rw [g.g.sc]; exact beq_iff_eq.mp l1) (by rw [g.g.sc]; exact beq_iff_eq.mp l2) (sEs es X N sc W _ g.g h2) hw).wk fun D σ H q => ?_
  obtain ⟨m, l, h, rh, rl, q⟩ := q
  refine tA_in rh rl (LN.ex_ (Ex.refl m) (Kp.refl _ H) rl) q fun m1 H1 vs ws h1 e1 k1 rh1 rl1 rv1 q1 => ?_
  obtain ⟨_, xs, ex, lx, q1⟩ := q1
  cases ex
  obtain ⟨v1, r1, rfl, b1, q1⟩ := q1
  obtain ⟨v2, r2, rfl, b2, q1⟩ := q1
  obtain ⟨rfl, q1⟩ := q1
  obtain ⟨w1, r1, rfl, rv1, rr⟩ := rv1
  obtain ⟨w2, r2, rfl, rv2, rr⟩ := rr
  cases (show r2 = [] from rr)
  exact ⟨w1, w2, rfl, q1 m1 H1 _ e1 k1 rh1 ((rl1.set rv1).set rv2)⟩
theorem asg_gen {X : Cx} {N : List Str} {sc : Sco} {W : WX} {dc : Bool} (g : GoodS M X N sc W k dc) {t : T} {e : E} {z y : Expr} {pos : Pos} (hm : ((mT M.toMe dc N sc t z && mE M.toMe N sc e y) && ((!tupTup z y || (parB sc z y && parT t)) && (notComp y || isLC y))) = true) :
    PS X (.Assign [z] y pos) (tS M W fun l h D => evS M.G (callS M.G k) (.asg t e) l h D) := by
  obtain ⟨h12, h34⟩ := ba hm
  obtain ⟨h1, h2⟩ := ba h12
  obtain ⟨h3, h4⟩ := ba h34
  by_cases htt : tupTup z y = true
  case pos =>
    rw [htt] at h3
    obtain ⟨h5, h6⟩ := ba (show (parB sc z y && parT t) = true from h3)
    exact asg_par g h1 h2 h5 h6
  have h3 : (!tupTup z y) = true := by rw [Bool.eq_false_iff.mpr htt]; rfl
  by_cases hsw : swB sc z y = true
  · exact asg_lc g (sE e X N sc W y g.g h2) h1 h2 h4 hsw
  have hsw : swB sc z y = false := by simpa using hsw
  refine (ps_asg (sE e X N sc W y g.g h2) (sG t dc X N sc W (fun _ _ => True) z g.g g.cel h1) (by show swapsWith y (some z) pos.line X.env = pure false; rw [sw_swB h4 (bk_of g.g), g.g.sc, hsw]) (sw_none (nb h3)) (by rw [as_each h1 X.env []] <;> rfl)).wk fun D σ H q => ?_
  obtain ⟨m, l, h, rh, rl, q⟩ := q
  refine tE_in rh rl (LN.ex_ (Ex.refl m) (Kp.refl _ H) rl) q fun m1 H1 v w h1 e1 k1 rh1 rl1 rv1 q1 => ?_
  exact ⟨m1, l, h1, v, rh1, rl1, rv1, evG_mono (csle M k) (fun _ _ _ => trivial) t v l h1 _ _ (LG.mono e1 k1) q1⟩
theorem asg_attr {X : Cx} {N : List Str} {sc : Sco} {W : WX} {dc : Bool} (g : GoodS M X N sc W k dc) {o : E} {f : Nat} {e : E} {x : Stmt} (hm : mS M.toMe dc N sc (.asg (.attr o f) e) x = true) :
    PS X x (tS M W fun l h D => evS M.G (callS M.G k) (.asg (.attr o f) e) l h D) := by
    cases x <;> first | exact absurd hm Bool.false_ne_true | skip
    rename_i tg y pos
    match tg, hm with
    | [], hm => exact absurd hm Bool.false_ne_true
    | w :: _ :: _, hm => cases w <;> exact absurd hm Bool.false_ne_true
    | [z], hm =>
      cases z <;> first | exact absurd hm Bool.false_ne_true | skip
      rename_i x' nm p
      obtain ⟨h1, h234⟩ := ba hm
      obtain ⟨h2, h34⟩ := ba h234
      obtain ⟨h3, h4⟩ := ba h34
      have e := of_decide_eq_true h1
      subst e
      refine (ps_fld (sE o X N sc W x' g.g h2) (sE e X N sc W y g.g h3) (by rw [sw_swB h4 (bk_of g.g)] <;> rfl)).wk fun D σ H q => ?_
      obtain ⟨m, l, h, rh, rl, q⟩ := q
      refine tE_in rh rl (LN.ex_ (Ex.refl m) (Kp.refl _ H) rl) q fun m1 H1 v w h1 e1 k1 rh1 rl1 rv1 q1 => ?_
      refine tE_in rh1 rl1 (LN.ex_ e1 k1 rl1) q1 fun m2 H2 u w2 h2 e2 k2 rh2 rl2 rv2 q2 => ?_
      obtain ⟨p, c, fs, cd, rfl, ep, hc, hf, hlen, q2⟩ := q2
      obtain ⟨pa, e3, rfl⟩ := rv2
      obtain ⟨dx, gs, cd', a1, a2, a3, a4, a5⟩ := rh2.obj _ _ _ ep e3
      rw [hc] at a2; cases a2
      have ok := g.g.cls c cd hc
      have hf' : f ∈ cd.fields := List.contains_iff_mem.mp hf
      refine ⟨pa, _, dx, gs, rfl, a1, by rw [g.g.hK]; exact ok.cls, by rw [g.g.hK]; exact ok.noat f hf', by omega, ?_⟩
      have kk : Kp M.K H2 (upd H2 pa (.ins (M.ca c) dx (putF (M.nm f) w gs))) := Kp.upd_old a1 rfl
      have put := rh2.put (u := .ins (M.ca c) dx (putF (M.nm f) w gs)) (o := .ins c (putN f v fs)) ep e3 rfl rfl ⟨dx, _, cd, upd_same, hc, ?_, ?_, ?_⟩
      · exact q2 m2 _ σ (e1.trans e2) ((k1.trans k2).trans kk) put.1 (rl2.mono kk (Ex.refl m2))
      · intro f2 hf2
        rw [lookup_putF, getN_putN]
        by_cases hz : f2 = f
        · subst hz
          rw [if_pos rfl, if_pos rfl]
          exact (rv1.mono k2 e2).mono kk (Ex.refl m2) _ _
        · rw [if_neg hz, if_neg (fun z => hz (ok.inj _ (List.contains_iff_mem.mp hf2) _ hf' z))]
          exact (a3 f2 hf2).mono kk (Ex.refl m2) _ _
      · rw [len_putF, len_putN, a4]
        have o := a3 f hf
        cases e5 : getN f fs <;> cases e6 : gs.lookup (M.nm f) <;> rw [e5, e6] at o <;> first | rfl | exact o.elim
      · intro s hs
        rcases keys_putF hs with rfl | hs
        · exact List.mem_map_of_mem hf'
        · exact a5 s hs
theorem ps_put {X : Cx} {o i value : Expr} {td ty tv : TE} {t : TSet} {pos pos' : Pos} (hset : PSet X t) (ho : PE X o td) (hi : PE X i ty) (hv : PE X value tv) (hs : swapsWith value (some (.Subscript o i pos')) pos.line X.env = pure false) :
    PS X (.Assign [.Subscript o i pos'] value pos) (fun D σ H => tv σ H fun v H1 => td σ H1 fun x H2 => ty σ H2 fun y H3 => t x y v H3 fun H4 => D.nx σ H4) := by
  refine ⟨fun pins s σ H D I h => ?_⟩
  refine wpAny_Assign_Subscript (thn (hv.run pins s σ H _ I h) fun r s1 ⟨v, H1, I1, rv, q1⟩ => thn (ho.run pins s1 σ H1 _ I1 q1) fun u s2 ⟨x, H2, I2, rx, q2⟩ => thn (hi.run pins s2 σ H2 _ I2 q2) fun iv s3 ⟨y, H3, I3, ry, q3⟩ => ?_) hs
  exact thn (hset pins s3 σ H3 x y v u iv r _ I3 rx ry rv q3) fun _ s' ⟨H', I', q⟩ => ⟨σ, H', I', q⟩
theorem asg_sub {X : Cx} {N : List Str} {sc : Sco} {W : WX} {dc : Bool} (g : GoodS M X N sc W k dc) {o i : E} {e : E} {x : Stmt} (hm : mS M.toMe dc N sc (.asg (.sub o i) e) x = true) :
    PS X x (tS M W fun l h D => evS M.G (callS M.G k) (.asg (.sub o i) e) l h D) := by
  cases x <;> first | exact absurd hm Bool.false_ne_true | skip
  rename_i tg y pos
  match tg, hm with
  | [], hm => exact absurd hm Bool.false_ne_true
  | w :: _ :: _, hm => cases w <;> exact absurd hm Bool.false_ne_true
  | [z], hm =>
    cases z <;> first | exact absurd hm Bool.false_ne_true | skip
    rename_i x' y' p
    obtain ⟨h1, h234⟩ := ba hm
    obtain ⟨h2, h34⟩ := ba h234
    obtain ⟨h3, h4⟩ := ba h34
    have hset : PSet X fun o i v H Q => rSetL o i v H Q ∨ rSetD o i v H Q := fun pins s σ H o i v ov iv u Q I ro ri rv h => h.elim (set_list pins s σ H o i v ov iv u Q I ro ri rv) (set_dict (by have := g.g.room.un; omega) pins s σ H o i v ov iv u Q I ro ri rv)
    refine (ps_put hset (sE o X N sc W x' g.g h1) (sE i X N sc W y' g.g h2) (sE e X N sc W y g.g h3) (by rw [sw_swB h4 (bk_of g.g)] <;> rfl)).wk fun D σ H q => ?_
    obtain ⟨m, l, h, rh, rl, q⟩ := q
    refine tE_in rh rl (LN.ex_ (Ex.refl m) (Kp.refl _ H) rl) q fun m1 H1 v w h1 e1 k1 rh1 rl1 rv1 q1 => ?_
    refine tE_in rh1 rl1 (LN.ex_ e1 k1 rl1) q1 fun m2 H2 u w2 h2 e2 k2 rh2 rl2 rv2 q2 => ?_
    refine tE_in rh2 rl2 (LN.ex_ (e1.trans e2) (k1.trans k2) rl2) q2 fun m3 H3 u3 w3 h3 e3 k3 rh3 rl3 rv3 q3 => ?_
    unfold putV at q3
    split at q3
    case h_2 => exact q3.elim
    rename_i b
    obtain ⟨pb, eb, rfl⟩ := rv2
    have eb3 := e3 _ _ eb
    split at q3
    case h_3 => exact q3.elim
    · rename_i xs ed
      obtain ⟨i, j, rfl, hj, q3⟩ := q3
      cases (show w3 = .int _ from rv3)
      obtain ⟨vs, e4, rk⟩ := rh3.obj _ _ _ ed eb3
      have rk : RVs M.K H3 m3 xs vs := rk
      have kk : Kp M.K H3 (upd H3 pb (.lst (vs.set j w))) := Kp.upd_old e4 rfl
      refine .inl ⟨pb, vs, i, j, rfl, rfl, e4, by rw [← rk.len]; exact hj, ?_⟩
      have put := rh3.put (u := .lst (vs.set j w)) (o := .lst (xs.set j v)) ed eb3 rfl rfl ⟨_, upd_same, (RVs.setI (RV.mono k3 e3 _ _ (RV.mono k2 e2 _ _ rv1)) j rk).mono kk (Ex.refl m3) _ _⟩
      exact q3 m3 _ σ ((e1.trans e2).trans e3) (((k1.trans k2).trans k3).trans kk) put.1 (rl3.mono kk (Ex.refl m3))
    rename_i kvs ed
    obtain ⟨hk, hlen, q3⟩ := q3
    obtain ⟨ks, e4, rk⟩ := rh3.obj _ _ _ ed eb3
    obtain ⟨q', hq, rfl⟩ := isK_of hk rv3
    have kk : Kp M.K H3 (upd H3 pb (.dK (putK ks q' w))) := Kp.upd_old e4 rfl
    refine .inr ⟨pb, _, rfl, DPut.k e4 (by rw [← rk.len]; exact hlen), ?_⟩
    have put := rh3.put (u := .dK (putK ks q' w)) (o := .dic (putD u3 v kvs)) ed eb3 rfl rfl ⟨_, upd_same, (put_of hq (RV.mono k3 e3 _ _ (RV.mono k2 e2 _ _ rv1)) rk).mono kk (Ex.refl m3) _ _⟩
    exact q3 m3 _ σ ((e1.trans e2).trans e3) (((k1.trans k2).trans k3).trans kk) put.1 (rl3.mono kk (Ex.refl m3))
def rAug (M : Mo) (o : BO) : V → V → Hp → VK → Prop := fun x y H Q => ∃ m h a b, RH M H m h ∧ RV M.K H m a x ∧ RV M.K H m b y ∧ augV o a b h (LQ M m H Q)
theorem aug_attr {X : Cx} {N : List Str} {sc : Sco} {W : WX} {dc : Bool} (g : GoodS M X N sc W k dc) {ob : E} {f : Nat} {o : BO} {e : E} {x : Stmt} (hm : mS M.toMe dc N sc (.augF ob f o e) x = true) :
    PS X x (tS M W fun l h D => evS M.G (callS M.G k) (.augF ob f o e) l h D) := by
  cases x <;> first | exact absurd hm Bool.false_ne_true | skip
  rename_i tg p z pos
  cases tg <;> first | exact absurd hm Bool.false_ne_true | skip
  rename_i x' nm tp
  obtain ⟨h1, h234⟩ := ba hm
  obtain ⟨h2, h34⟩ := ba h234
  obtain ⟨h3, h4⟩ := ba h34
  have en := of_decide_eq_true h1
  subst en
  have eo := of_decide_eq_true h3
  subst eo
  have hop : InOp X (bopOf o) (rAug M o) := fun pins s σ H x y u v Q I rx ry q => sA o pins s σ H x y u v Q I rx ry q
  refine (ps_fldaug (sE ob X N sc W x' g.g h2) (sE e X N sc W z g.g h4) hop).wk fun D σ H q => ?_
  obtain ⟨m, l, h, rh, rl, q⟩ := q
  refine tE_in rh rl (LN.ex_ (Ex.refl m) (Kp.refl _ H) rl) q fun m1 H1 v w h1 e1 k1 rh1 rl1 rv1 q1 => ?_
  obtain ⟨pp, c, fs, v0, cd, rfl, ep, hc, hf, hg, q1⟩ := q1
  obtain ⟨pa, e3, rfl⟩ := rv1
  obtain ⟨dx, gs, cd', a1, a2, a3, a4, a5⟩ := rh1.obj _ _ _ ep e3
  rw [hc] at a2; cases a2
  have ok := g.g.cls c cd hc
  have hf' : f ∈ cd.fields := List.contains_iff_mem.mp hf
  have o3 := a3 f hf
  rw [hg] at o3
  cases e6 : gs.lookup (M.nm f) with
  | none => rw [e6] at o3; exact o3.elim
  | some w0 =>
  rw [e6] at o3
  have rv0 : RV M.K H1 m1 v0 w0 := o3
  refine ⟨pa, _, dx, gs, w0, rfl, a1, by rw [g.g.hK]; exact ok.cls, by rw [g.g.hK]; exact ok.noat f hf', e6, ?_⟩
  refine tE_in rh1 rl1 (LN.ex_ e1 k1 rl1) q1 fun m2 H2 u w2 h2 e2 k2 rh2 rl2 rv2 q2 => ?_
  refine ⟨m2, h2, v0, u, rh2, rv0.mono k2 e2 _ _, rv2, augV_mono (fun z h3 q3 m3 H3 w3 e3' k3 rh3 rv3 => ?_) q2⟩
  obtain ⟨fs', b1, b2, q3⟩ := q3
  have e33 := e3' _ _ (e2 _ _ e3)
  obtain ⟨dx', gs', cd'', b3, b4, b5, b6, b7⟩ := rh3.obj _ _ _ b1 e33
  rw [hc] at b4; cases b4
  refine ⟨dx', gs', b3, by omega, ?_⟩
  have kk : Kp M.K H3 (upd H3 pa (.ins (M.ca c) dx' (putF (M.nm f) w3 gs'))) := Kp.upd_old b3 rfl
  have put := rh3.put (u := .ins (M.ca c) dx' (putF (M.nm f) w3 gs')) (o := .ins c (putN f z fs')) b1 e33 rfl rfl ⟨dx', _, cd, upd_same, hc, ?_, ?_, ?_⟩
  · exact q3 m3 _ σ ((e1.trans e2).trans e3') (((k1.trans k2).trans k3).trans kk) put.1 ((rl2.mono k3 e3').mono kk (Ex.refl m3))
  · intro f2 hf2
    rw [lookup_putF, getN_putN]
    by_cases hz : f2 = f
    · subst hz
      rw [if_pos rfl, if_pos rfl]
      exact rv3.mono kk (Ex.refl m3) _ _
    · rw [if_neg hz, if_neg (fun z => hz (ok.inj _ (List.contains_iff_mem.mp hf2) _ hf' z))]
      exact (b5 f2 hf2).mono kk (Ex.refl m3) _ _
  · rw [len_putF, len_putN, b6]
    have o := b5 f hf
    cases e5 : getN f fs' <;> cases e6 : gs'.lookup (M.nm f) <;> rw [e5, e6] at o <;> first | rfl | exact o.elim
  · intro s hs
    rcases keys_putF hs with rfl | hs
    · exact List.mem_map_of_mem hf'
    · exact b7 s hs
mutual
theorem sS : ∀ (s : S) (X : Cx) (N : List Str) (sc : Sco) (W : WX) (dc : Bool) (x : Stmt), GoodS M X N sc W k dc → mS M.toMe dc N sc s x = true → PS X x (tS M W fun l h D => evS M.G (callS M.G k) s l h D)
  | .asg (.nm i) e, X, N, sc, W, dc, x, g, hm => by
    cases x <;> first | exact absurd hm Bool.false_ne_true | skip
    rename_i tg y pos
    match tg, hm with
    | [], hm => exact absurd hm Bool.false_ne_true
    | _ :: _ :: _, hm => exact absurd hm Bool.false_ne_true
    | [z], hm => exact asg_gen g hm
  | .asg (.tup ts) e, X, N, sc, W, dc, x, g, hm => by
    cases x <;> first | exact absurd hm Bool.false_ne_true | skip
    rename_i tg y pos
    match tg, hm with
    | [], hm => exact absurd hm Bool.false_ne_true
    | _ :: _ :: _, hm => exact absurd hm Bool.false_ne_true
    | [z], hm => exact asg_gen g hm
  | .asg (.attr o f) e, X, N, sc, W, dc, x, g, hm => asg_attr g hm
  | .asg (.sub o i) e, X, N, sc, W, dc, x, g, hm => asg_sub g hm
  | .augF ob f o e, X, N, sc, W, dc, x, g, hm => aug_attr g hm
  | .aug i o e, X, N, sc, W, dc, x, g, hm => by
    cases x <;> first | exact absurd hm Bool.false_ne_true | skip
    rename_i tg p y pos
    cases tg <;> first | exact absurd hm Bool.false_ne_true | skip
    obtain ⟨h12, h34⟩ := ba hm
    obtain ⟨h1, h2⟩ := ba h12
    obtain ⟨h3, h4⟩ := ba h34
    have eo := of_decide_eq_true h3
    subst eo
    obtain ⟨l1, l2⟩ := loc_of g.g g.cel h2
    refine (ps_aug (i := i) (ti := r2 M (augV o)) (by rw [g.g.hN]; exact g.g.nd) (by rw [g.g.hN]; exact of_decide_eq_true h1) l1 (sE e X N sc W y g.g h4) (fun pins s σ H x y v u Q I r1 r2 h => sA o pins s σ H x y v u Q I r1 r2 h) l2).wk fun D σ H q => ?_
    obtain ⟨m, l, h, rh, rl, x, ex, q⟩ := q
    obtain ⟨w0, e0, r0⟩ := rl.2 i x ex
    refine ⟨w0, e0, ?_⟩
    refine tE_in rh rl (LN.ex_ (Ex.refl m) (Kp.refl _ H) rl) q fun m1 H1 v w h1 e1 k1 rh1 rl1 rv1 q1 => ?_
    refine ⟨m1, h1, x, v, rh1, r0.mono k1 e1, rv1, augV_mono (fun z h2 q2 m2 H2 w2 e2 k2 rh2 rv2 => ?_) q1⟩
    exact q2 m2 H2 _ (e1.trans e2) (k1.trans k2) rh2 ((rl1.mono k2 e2).set rv2)
  | .exp e, X, N, sc, W, dc, x, g, hm => by
    cases x <;> first | exact absurd hm Bool.false_ne_true | skip
    rename_i y pos
    obtain ⟨h1, h2⟩ := ba hm
    refine (ps_expr (sE e X N sc W y g.g h1) (notComp_sw h2)).wk fun D σ H q => ?_
    obtain ⟨m, l, h, rh, rl, q⟩ := q
    refine tE_in rh rl (LN.ex_ (Ex.refl m) (Kp.refl _ H) rl) q fun m1 H1 v w h1 e1 k1 rh1 rl1 rv1 q1 => ?_
    exact q1 m1 H1 σ e1 k1 rh1 rl1
  | .ret e, X, N, sc, W, dc, x, g, hm => by
    cases x <;> first | exact absurd hm Bool.false_ne_true | skip
    rename_i y pos
    cases y <;> first | exact absurd hm Bool.false_ne_true | skip
    refine (ps_ret (sE e X N sc W _ g.g hm)).wk fun D σ H q => ?_
    obtain ⟨m, l, h, rh, rl, q⟩ := q
    exact tE_in rh rl (LN.ex_ (Ex.refl m) (Kp.refl _ H) rl) q fun m1 H1 v w h1 e1 k1 rh1 rl1 rv1 q1 => (LQ.mono e1 k1 _ _ q1).at rh1 rv1
  | .retN, X, N, sc, W, dc, x, g, hm => by
    cases x <;> first | exact absurd hm Bool.false_ne_true | skip
    rename_i y pos
    cases y <;> first | exact absurd hm Bool.false_ne_true | skip
    exact ps_retN.wk fun D σ H ⟨m, l, h, rh, rl, q⟩ => LQ.at q rh rfl
  | .ife c a b, X, N, sc, W, dc, x, g, hm => by
    cases x <;> first | exact absurd hm Bool.false_ne_true | skip
    rename_i y xs ys pos
    obtain ⟨h1, h23⟩ := ba hm
    obtain ⟨h2, h3⟩ := ba h23
    refine (ps_if (sT c X N sc W y g.g h1).1 (sBk a X N sc W dc xs g h2) (sBk b X N sc W dc ys g h3)).wk fun D σ H q => ?_
    obtain ⟨m, l, h, rh, rl, q⟩ := q
    refine tT_in rh rl (LN.ex_ (Ex.refl m) (Kp.refl _ H) rl) q fun m1 H1 r h1 e1 k1 rh1 rl1 q1 => ?_
    cases r with
    | true => exact ⟨m1, l, h1, rh1, rl1, evB_mono (csle M k) a l h1 _ _ (LN.le e1 k1) q1⟩
    | false => exact ⟨m1, l, h1, rh1, rl1, evB_mono (csle M k) b l h1 _ _ (LN.le e1 k1) q1⟩
  | .for t it b, X, N, sc, W, dc, x, g, hm => by
    cases x <;> first | exact absurd hm Bool.false_ne_true | skip
    rename_i tg y xs ys pos
    cases ys <;> first | exact absurd hm Bool.false_ne_true | skip
    obtain ⟨h12, h3⟩ := ba hm
    obtain ⟨h1, h2⟩ := ba h12
    obtain ⟨hi, hn⟩ := sI it X N sc W tg y g.g h1
    refine (ps_for g.pas g.g.calm hi (sG t dc X N sc W (fun _ _ => True) tg g.g g.cel h2) (sBk b X N sc W dc xs g h3) (Py.fold_of hn X.env)).wk fun D σ H q => ?_
    obtain ⟨m, l, h, rh, rl, q⟩ := q
    refine ⟨m, l, h, rh, rl, evI_mono (csle M k) (LN.ex_ (Ex.refl m) (Kp.refl _ H) rl) it l h _ _ (fun items live h1 q1 m1 H1 J e1 k1 rh1 wk => ?_) q⟩
    obtain ⟨G, Y, w, wG, wY⟩ := wk.ex
    refine for_it w (fun i σ' H' => ∃ m' l' h', Ex m1 m' ∧ Kp M.K H1 H' ∧ RH M H' m' h' ∧ RL M.K H' m' l' σ' ∧
      iterL live (fun v l' h' K => evG M.G (callS M.G k) (fun x h' => (LN M W m H D).ex x l' h') t v l' h' fun l2 h2 => evB M.G (callS M.G k) b l2 h2 { LN M W m H D with nx := K, ct := K }) (LN M W m H D).nx (items.drop i) l' h') ?_ ?_ ?_ ?_
    · exact ⟨m1, l, h1, Ex.refl m1, Kp.refl _ H1, rh1, rl.mono k1 e1, q1⟩
    · rintro i σ' H' hi ⟨m', l', h', e2, k2, rh2, rl2, q2⟩
      refine wG m' H' h' e2 k2 rh2 ?_
      generalize items.drop i = ds at q2
      cases ds with
      | nil => exact q2.1
      | cons _ _ => exact q2.1
    · rintro i x σ' H' H'' hi ⟨m', l', h', e2, k2, rh2, rl2, q2⟩ y
      have hlt : i < items.length := hi
      have lv : live h' := by
        generalize items.drop i = ds at q2
        cases ds with
        | nil => exact q2.1
        | cons _ _ => exact q2.1
      obtain ⟨v, ev, rh3, k3, rv3⟩ := wY i m' H' h' x H'' e2 k2 rh2 lv hlt y
      rw [drop_cons ev] at q2
      have e13 := e1.trans e2
      have k13 := (k1.trans k2).trans k3
      refine ⟨m', l', h', v, rh3, rl2.mono k3 (Ex.refl m'), rv3, evG_mono (csle M k) (fun _ _ _ => trivial) t v l' h' _ _ (fun l4 h4 q4 m4 H4 σ4 e4 k4 rh4 rl4 => ?_) q2.2⟩
      refine ⟨m4, l4, h4, rh4, rl4, evB_mono (csle M k) b l4 h4 _ _ ?_ q4⟩
      have e14 := e13.trans e4
      have k14 := k13.trans k4
      have again : ∀ (l5 : Py.Loc) (h5 : PH), iterL live (fun v l' h' K => evG M.G (callS M.G k) (fun x h' => (LN M W m H D).ex x l' h') t v l' h' fun l2 h2 => evB M.G (callS M.G k) b l2 h2 { LN M W m H D with nx := K, ct := K }) (LN M W m H D).nx (items.drop (i + 1)) l5 h5 →
          LG M m4 H4 (fun σ' H' => ∃ m' l' h', Ex m1 m' ∧ Kp M.K H1 H' ∧ RH M H' m' h' ∧ RL M.K H' m' l' σ' ∧
            iterL live (fun v l' h' K => evG M.G (callS M.G k) (fun x h' => (LN M W m H D).ex x l' h') t v l' h' fun l2 h2 => evB M.G (callS M.G k) b l2 h2 { LN M W m H D with nx := K, ct := K }) (LN M W m H D).nx (items.drop (i + 1)) l' h') l5 h5 :=
        fun l5 h5 q5 m5 H5 σ5 e5 k5 rh5 rl5 => ⟨m5, l5, h5, (e2.trans e4).trans e5, ((k2.trans k3).trans k4).trans k5, rh5, rl5, q5⟩
      exact ⟨again, LQ.mono e14 k14, again, (LN.le (D := D) (W := W) e14 k14).ex⟩
    · rintro σ' H' ⟨m', l', h', e2, k2, rh2, rl2, q2⟩
      rw [List.drop_length] at q2
      exact q2.2 m' H' σ' (e1.trans e2) (k1.trans k2) rh2 rl2
  | .whl c b, X, N, sc, W, dc, x, g, hm => by
    cases x <;> first | exact absurd hm Bool.false_ne_true | skip
    rename_i y xs ys pos
    cases ys <;> first | exact absurd hm Bool.false_ne_true | skip
    obtain ⟨h1, h2⟩ := ba hm
    refine (ps_while g.pas (sT c X N sc W y g.g h1).1 (sBk b X N sc W dc xs g h2)).wk fun D σ H q => ?_
    obtain ⟨m, l, h, rh, rl, n, q⟩ := q
    refine ⟨fun n σ' H' => ∃ m' l' h', Ex m m' ∧ Kp M.K H H' ∧ RH M H' m' h' ∧ RL M.K H' m' l' σ' ∧
      whlN (fun l' h' K => evT M.G (callS M.G k) (fun x h' => (LN M W m H D).ex x l' h') c l' h' fun r h1 => if r = true then evB M.G (callS M.G k) b l' h1 { LN M W m H D with nx := K, ct := K } else (LN M W m H D).nx l' h1) n l' h',
      ⟨n, m, l, h, Ex.refl m, Kp.refl _ H, rh, rl, q⟩, ?_⟩
    rintro n σ' H' ⟨m', l', h', e2, k2, rh2, rl2, q2⟩
    cases n with
    | zero => exact (show False from q2).elim
    | succ n =>
      refine tT_in rh2 rl2 (LN.ex_ e2 k2 rl2) q2 fun m3 H3 r h3 e3 k3 rh3 rl3 q3 => ?_
      have e13 := e2.trans e3
      have k13 := k2.trans k3
      cases r with
      | false => exact q3 m3 H3 σ' e13 k13 rh3 rl3
      | true =>
        refine ⟨_, fun σ5 H5 z => ⟨n, Nat.lt_succ_self n, z⟩, m3, l', h3, rh3, rl3, evB_mono (csle M k) b l' h3 _ _ ?_ q3⟩
        have again : ∀ (l5 : Py.Loc) (h5 : PH), whlN (fun l' h' K => evT M.G (callS M.G k) (fun x h' => (LN M W m H D).ex x l' h') c l' h' fun r h1 => if r = true then evB M.G (callS M.G k) b l' h1 { LN M W m H D with nx := K, ct := K } else (LN M W m H D).nx l' h1) n l5 h5 →
            LG M m3 H3 (fun σ' H' => ∃ m' l' h', Ex m m' ∧ Kp M.K H H' ∧ RH M H' m' h' ∧ RL M.K H' m' l' σ' ∧
              whlN (fun l' h' K => evT M.G (callS M.G k) (fun x h' => (LN M W m H D).ex x l' h') c l' h' fun r h1 => if r = true then evB M.G (callS M.G k) b l' h1 { LN M W m H D with nx := K, ct := K } else (LN M W m H D).nx l' h1) n l' h') l5 h5 :=
          fun l5 h5 q5 m5 H5 σ5 e5 k5 rh5 rl5 => ⟨m5, l5, h5, e13.trans e5, k13.trans k5, rh5, rl5, q5⟩
        exact ⟨again, LQ.mono e13 k13, again, (LN.le (D := D) (W := W) e13 k13).ex⟩
  | .pas, X, N, sc, W, dc, x, g, hm => by
    cases x <;> first | exact absurd hm Bool.false_ne_true | skip
    exact ps_pass.wk fun D σ H ⟨m, l, h, rh, rl, q⟩ => q m H σ (Ex.refl m) (Kp.refl _ H) rh rl
  | .cont, X, N, sc, W, dc, x, g, hm => by
    cases x <;> first | exact absurd hm Bool.false_ne_true | skip
    exact ps_continue.wk fun D σ H ⟨m, l, h, rh, rl, q⟩ => q m H σ (Ex.refl m) (Kp.refl _ H) rh rl
  | .augS _ _ _ _, X, N, sc, W, dc, x, g, hm => absurd hm (by cases x <;> exact Bool.false_ne_true)
  | .rai0, X, N, sc, W, dc, x, g, hm => ps_never.wk fun D σ H q => by
    obtain ⟨m, l, h, rh, rl, q⟩ := q
    exact q
  | .rais _ _, X, N, sc, W, dc, x, g, hm => absurd hm (by cases x <;> exact Bool.false_ne_true)
theorem sBk : ∀ (b : B) (X : Cx) (N : List Str) (sc : Sco) (W : WX) (dc : Bool) (xs : List Stmt), GoodS M X N sc W k dc → mB M.toMe dc N sc b xs = true → PSs X xs (tS M W fun l h D => evB M.G (callS M.G k) b l h D)
  | .nil, X, N, sc, W, dc, [], g, hm => pss_nil.wk fun D σ H ⟨m, l, h, rh, rl, q⟩ => q m H σ (Ex.refl m) (Kp.refl _ H) rh rl
  | .nil, X, N, sc, W, dc, _ :: _, g, hm => absurd hm Bool.false_ne_true
  | .cons _ _, X, N, sc, W, dc, [], g, hm => absurd hm Bool.false_ne_true
  | .cons s b, X, N, sc, W, dc, x :: xs, g, hm => by
    obtain ⟨h1, h2⟩ := ba hm
    refine (pss_cons (sS s X N sc W dc x g h1) (sBk b X N sc W dc xs g h2)).wk fun D σ H q => ?_
    obtain ⟨m, l, h, rh, rl, q⟩ := q
    refine ⟨m, l, h, rh, rl, evS_mono (csle M k) s l h { LN M W m H D with nx := fun l' h' => evB M.G (callS M.G k) b l' h' (LN M W m H D) } _ ⟨fun l1 h1 q1 m1 H1 σ1 e1 k1 rh1 rl1 => ?_, fun _ _ z => z, fun _ _ z => z, fun _ _ _ z => z⟩ q⟩
    exact ⟨m1, l1, h1, rh1, rl1, evB_mono (csle M k) b l1 h1 _ _ (LN.le e1 k1) q1⟩
end
end
end Py

set_option Elab.async false
set_option linter.all false
set_option maxRecDepth 100000
set_option maxHeartbeats 4000000
/-! PySound7: defs, the law. -/
namespace Py
open PySem PySem.Spec PyProof.Rows L2
/-- what is known of a def of the text -/
structure Ent (M : Mo) (f : Nat) (d : FD) : Prop where
  ex : ∃ (x qual : Str) (params : Arguments) (body : List Stmt) (scope : Scope) (dvs : List V) (kws : List (Str × V)) (N ps : List Str) (fd : FuncData),
    FunD M.K x qual params body scope dvs kws (M.fa f) fd ∧ FnScope N ps scope ∧ ps.length = d.np ∧ N.length = d.ns ∧ mB M.toMe true N scope.names d.body body = true ∧ (Dfl M fd ps d ∧ Kwd M fd ps d)
theorem start_rl {K : PySem.W.Frag} {H : Hp} {m : List Addr} {d : FD} {N : List Str} {args : List PV} {vs : List V} (rv : RVs K H m args vs) (hN : N.length = d.ns) : RL K H m (startL d args) (L2.start N vs) := by
  unfold startL L2.start
  have el := rv.len
  refine ⟨by simp [el, hN], fun i v e => ?_⟩
  by_cases hi : i < args.length
  · rw [List.getElem?_append_left (by simpa using hi), List.getElem?_map] at e
    cases ea : args[i]? with
    | none => rw [ea] at e; cases e
    | some a =>
      rw [ea] at e
      have e' : a = v := Option.some.inj (Option.some.inj e)
      subst e'
      obtain ⟨w, e2, r⟩ := rv.get ea
      exact ⟨w, by rw [List.getElem?_append_left (by simpa [← el] using hi), List.getElem?_map, e2] <;> rfl, r⟩
  · rw [List.getElem?_append_right (by simpa using hi), List.getElem?_replicate] at e
    split at e <;> cases e
section
variable {M : Mo} {P : Program} {w : World} {mg : Str → Option Value} {base : Heap}
theorem fn_one (glo : Glo M mg) (fng : ∀ f, M.gf f = true → mg (M.nm f) = some (.ref (M.fa f))) {k f : Nat} {d : FD} (hf : M.G.fn f = some d) (cls : ∀ c cd, M.G.cls c = some cd → ClsOk M mg c cd) (ih : ∀ j, j ≤ k → ∀ f d, M.G.fn f = some d → FnC M P w mg base j f d (M.fa f))
    {x qual : Str} {params : Arguments} {body : List Stmt} {scope : Scope} {dvs : List V} {kws : List (Str × V)} {N ps : List Str} {fd : FuncData}
    (F : FunD M.K x qual params body scope dvs kws (M.fa f) fd) (S : FnScope N ps scope) (h1 : ps.length = d.np) (h2 : N.length = d.ns) (h3 : mB M.toMe true N scope.names d.body body = true) :
    FnG P w M.K mg base (L2.CX P w) (k + 1) (M.fa f) fd ps (spF M (k + 1) f d.np) := by
  refine fnG_of F S (fun {vs H Q E} ⟨m, h, args, _, rv, hl, q⟩ => by rw [← rv.len, hl, h1]) (fun cdv A outer s H vs Q E hgd hr hsp => ?_)
  obtain ⟨m, h, args, rh, rv, hl, q⟩ := hsp
  have g : GoodS M (cxOf (L2.CX P w) P w M.K mg base N qual scope (M.fa f) cdv A outer s H E) N scope.names (fun cls d _ H => E cls d H) k true :=
    ⟨⟨rfl, S.nd, rfl, rfl, rfl, takes_of rfl rfl rfl rfl, hr, hgd, S.kind, glo, ih, cls, fng⟩, passes_of rfl, fun _ _ _ => rfl⟩
  refine ⟨_, sBk d.body _ N scope.names _ true body g h3, ?_⟩
  obtain ⟨d', hf', l1, l2, q⟩ := q
  rw [hf] at hf'; cases hf'
  have e0 : fill d.dfl args d.np = args := by
    show args ++ d.dfl.drop (d.dfl.length - (d.np - args.length)) = args
    rw [hl, Nat.sub_self, Nat.sub_zero, List.drop_length, List.append_nil]
  rw [e0] at q
  refine ⟨m, startL d args, h, rh, start_rl rv h2, evB_mono (csle M k) d.body _ _ ⟨fun _ h' => LQ M m H Q .non h', LQ M m H Q, fun _ _ => False, fun x _ h' => LE M E m H x h'⟩ _ ⟨?_, ?_, ?_, ?_⟩ q⟩
  · exact fun l h q m' H' σ' e k r rl => q m' H' .non e k r rfl
  · exact fun v h q => q
  · exact fun l h q => (show False from q).elim
  · exact fun x l h q m' H' σ' c d e k r rl rx => q m' H' c d e k r rx
theorem funs_ok (glo : Glo M mg) (fng : ∀ f, M.gf f = true → mg (M.nm f) = some (.ref (M.fa f))) (cls : ∀ c cd, M.G.cls c = some cd → ClsOk M mg c cd) (hall : ∀ f d, M.G.fn f = some d → Ent M f d) :
    ∀ k j, j ≤ k → ∀ f d, M.G.fn f = some d → FnC M P w mg base j f d (M.fa f)
  | k, 0, _, f, d, hf => by
    obtain ⟨x, qual, params, body, scope, dvs, kws, N, ps, fd, F, S, h1, h2, h3, h4⟩ := (hall f d hf).ex
    exact ⟨fd, ps, ⟨fun {vs H Q E} ⟨m, h, args, _, _, _, q⟩ => (show False from q).elim, fun {A outer s H args us vs Q E} _ _ _ _ _ ⟨m, h, as, _, _, _, q⟩ => (show False from q).elim⟩, ⟨F.kp, h4.2⟩, h4.1⟩
  | 0, j + 1, hj, f, d, hf => absurd hj (Nat.not_succ_le_zero j)
  | k + 1, j + 1, hj, f, d, hf => by
    have ih : ∀ i, i ≤ j → ∀ f d, M.G.fn f = some d → FnC M P w mg base i f d (M.fa f) := fun i hi => funs_ok glo fng cls hall k i (Nat.le_trans hi (Nat.le_of_succ_le_succ hj))
    obtain ⟨x, qual, params, body, scope, dvs, kws, N, ps, fd, F, S, h1, h2, h3, h4⟩ := (hall f d hf).ex
    exact ⟨fd, ps, fn_one glo fng hf cls ih F S h1 h2 h3, ⟨F.kp, h4.2⟩, h4.1⟩
theorem dfl0 {fd : FuncData} {ps : List Str} {d : FD} (b : Binds M.K fd ps []) (e : d.dfl = []) : Dfl M fd ps d := fun n hn hl => by
  rw [e]
  exact ⟨[], [], .nil, b, fun H m => by rw [List.drop_nil]; rfl⟩
theorem vals_take {vs : List V} {us : List Value} (h : Vals vs us) : ∀ n : Nat, Vals (vs.take n) (us.take n) := by
  induction h with
  | nil => intro n; cases n <;> exact .nil
  | cons r _ ih => intro n; cases n with
    | zero => exact .nil
    | succ n => exact .cons r (ih n)
theorem kwd0 {fd : FuncData} {ps : List Str} {d : FD} (e : d.kw = none) : Kwd M fd ps d := fun x hx => by rw [e] at hx; cases hx
/-- the law's promise -/
theorem law_sp {k fL : Nat} {dL : FD} {n : Nat} (hf : M.G.fn fL = some dL) (h1 : dL.np = 1)
    (law : ∀ ns : List Int, ns.length ≤ n → callS M.G k (.fn fL) [.ref 0] [.frl (ns.map PV.int)] (fun v _ => v = .bl true) (fun _ _ => False))
    (H : Hp) (a : Addr) (ns : List Int) (hl : ns.length ≤ n) (hO : Only H) (hS : SqL M.K H a (ns.map V.int)) : spF M k fL 1 [.ref a] H (fun v _ => v = .bl true) (fun _ _ _ => False) := by
  have rints : ∀ ns : List Int, RVs M.K H [a] (ns.map PV.int) (ns.map V.int) := fun ns => by
    induction ns with
    | nil => rfl
    | cons i r ih => exact ⟨_, _, rfl, rfl, ih⟩
  refine ⟨[a], [.frl (ns.map PV.int)], [.ref 0], ⟨rfl, fun b o p e1 e2 => ?_, fun b c p o u e1 e2 e3 e4 n1 n2 => ?_⟩, RVs.one ⟨a, rfl, rfl⟩, rfl, callS_mono (fun v h e m' H' w _ _ _ rv => ?_) (fun x h z => z.elim) (law ns hl)⟩
  · cases b with
    | zero =>
      cases (show PO.frl (ns.map PV.int) = o from Option.some.inj e1)
      cases (show a = p from Option.some.inj e2)
      refine ⟨ns.map V.int, ?_, rints ns⟩
      rcases hS with (hS | ⟨ob, hS⟩) | hS
      · rcases hO a with z | ⟨ob, xs, z⟩
        · rw [hS] at z; cases z
        · rw [hS] at z; cases z
      · exact .inl ⟨ob, hS⟩
      · exact .inr hS
    | succ b => simp at e1
  · cases b with
    | zero =>
      cases (show PO.frl (ns.map PV.int) = o from Option.some.inj e3)
      cases n1
    | succ b => simp at e3
  · subst e
    exact rv
end
theorem walk_ofG {l : PySem.W.OpenLaw} {n k : Nat} {q : Program} {loose : List Str} {XP : (Str → Option Value) → Heap → Prop} {YP : World → Heap → Prop} {d : DefRec} {x : Str}
    (hn : l.most = some n) (hn2 : n ≤ sizeLine) (hdf : d.params.defaults = []) (hr : Room k callerA)
    (F : ∀ (w : World) (mg : Str → Option Value) (fa : Addr) (h : Heap), YP w h → h.Ns mainGlobals mg → mg d.name = some (.ref fa) →
      ∃ (K : PySem.W.Frag) (fd : FuncData) (sp : Sp), K.In h ∧ (∀ (s : Shared) (u : Value), BindsTo s fd ⟨[u], []⟩ [(x, u)]) ∧
        (∀ (H : Hp) (a : Addr) (ns : List Int), ns.length ≤ n → Only H → SqL K H a (ns.map V.int) → sp [.ref a] H (fun v _ => v = .bl true) fun _ _ _ => False) ∧
        ∀ base : Heap, K.In base → base.Ns mainGlobals mg → FnG l.prog w K mg base (L2.CX l.prog w) k fa fd [x] sp) :
    PySem.W.WalkO q loose XP YP l.row.toRowW d [] (fun f vs => PySem.call f vs) := by
  refine Att.attach_call hn hdf fun w s₀ s₁ mg mb fa o pm cd doc a vs ns G Y ho hd hcd hmg hobj hints hlen hg => ?_
  obtain ⟨K, fd, sp, KX, hb, hsp, hF⟩ := F w mg fa _ Y G.T.g hmg
  refine law_callG KX G.T.g G.T.b G.T.builtins G.T.nolimit hg hobj hints (Nat.le_trans hlen hn2) hr hF hb (fun H hO hS => hsp H a ns hlen hO hS) fun H e s' c => ?_
  obtain ⟨_, _, _, _, _, _, _, _, _, _, _, _, z⟩ := c
  exact z
theorem SaysD.mem {fa : List He.Fa} {fn : List He.DefD} {K : PySem.W.Frag} (c : He.SaysD fa fn K) {f : He.Fa} (h : f ∈ fa) : f.ok K = true := by
  obtain ⟨i, e⟩ := List.getElem?_of_mem h
  exact c.fact i e
mutual
theorem chkV_ok {K : PySem.W.Frag} : ∀ (v : PV) (u : Value), chkV K v u = true → ∃ w, RelV w u ∧ ∀ H m, RV K H m v w
  | .non, u, h => by
    cases u with
    | none => exact ⟨.non, rfl, fun _ _ => rfl⟩
    | _ => cases h
  | .bl b, u, h => by
    cases u with
    | bool c => cases eq_of_beq (show (b == c) = true from h); exact ⟨.bl b, rfl, fun _ _ => rfl⟩
    | _ => cases h
  | .int i, u, h => by
    cases u with
    | int j t => cases of_decide_eq_true (show decide (i = j) = true from h); exact ⟨.int i, ⟨t, rfl⟩, fun _ _ => rfl⟩
    | _ => cases h
  | .str i, u, h => by
    cases u with
    | str j t => cases of_decide_eq_true (show decide (i = j) = true from h); exact ⟨.str i, ⟨t, rfl⟩, fun _ _ => rfl⟩
    | _ => cases h
  | .tup xs, u, h => by
    cases u with
    | ref a =>
      have h : (match K.lookup a with
        | some ⟨.type c, _, .seq its _, _⟩ => decide (c = "tuple") && (decide (its.size ≤ sizeLine) && chkVs K xs its.toList)
        | _ => false) = true := h
      cases q : K.lookup a with
      | none => rw [q] at h; cases h
      | some o =>
        obtain ⟨oc, od, dt, osl⟩ := o
        rw [q] at h
        cases oc with
        | type c =>
          cases dt with
          | seq its n =>
            obtain ⟨h1, h2⟩ := ba (show (decide (c = "tuple") && (decide (its.size ≤ sizeLine) && chkVs K xs its.toList)) = true from h)
            obtain ⟨h3, h4⟩ := ba h2
            obtain ⟨ws, r1, r2⟩ := chkVs_ok xs its.toList h4
            exact ⟨.ref a, rfl, fun H m => ⟨a, ws, rfl, .inr ⟨_, its, n, q, congrArg Value.type (of_decide_eq_true h1), rfl, of_decide_eq_true h3, r1⟩, r2 H m⟩⟩
          | _ => cases h
        | _ => cases dt <;> cases h
    | _ => cases h
  | .ref a, u, h => by cases u <;> cases h
theorem chkVs_ok {K : PySem.W.Frag} : ∀ (v : List PV) (u : List Value), chkVs K v u = true → ∃ w, Vals w u ∧ ∀ H m, RVs K H m v w
  | [], [], _ => ⟨[], .nil, fun _ _ => rfl⟩
  | [], _ :: _, h => by cases h
  | _ :: _, [], h => by cases h
  | x :: xs, u :: us, h => by
    obtain ⟨h1, h2⟩ := ba (show (chkV K x u && chkVs K xs us) = true from h)
    obtain ⟨w, r1, r2⟩ := chkV_ok x u h1
    obtain ⟨ws, s1, s2⟩ := chkVs_ok xs us h2
    exact ⟨w :: ws, .cons r1 s1, fun H m => ⟨w, ws, rfl, r2 H m, s2 H m⟩⟩
end
theorem chkC_ok {K : PySem.W.Frag} {h : Heap} {mg : Str → Option Value} {nm : Nat → Str} {l : List (Nat × PV)} (X : K.In h) (G : h.Ns mainGlobals mg) (c : chkC nm l K = true) : ∀ g v, getN g l = some v → ∃ u w, mg (nm g) = some u ∧ RelV w u ∧ ∀ H m, RV K H m v w := by
  intro g v e
  have mem : (g, v) ∈ l := by
    induction l with
    | nil => cases e
    | cons p r ih =>
      obtain ⟨f, x⟩ := p
      unfold getN at e
      split at e
      · rename_i z; cases e; subst z; exact List.mem_cons_self
      · exact List.mem_cons_of_mem _ (ih (Bool.and_eq_true_iff.mp (show (_ && chkC nm r K) = true from c)).2 e)
  have c1 := List.all_eq_true.mp c _ mem
  dsimp only at c1
  split at c1
  · rename_i u hu
    obtain ⟨w, r1, r2⟩ := chkV_ok v u c1
    exact ⟨u, w, PySem.W.mg_of X G hu, r1, r2⟩
  · cases c1
theorem chkM_ok {K : PySem.W.Frag} {x m : Str} {p : Str × Option Str} (c : chkM K x m p = true) : Meth K (He.ga K x) m (He.fAd K p) := by
  obtain ⟨c1, c⟩ := ba c
  obtain ⟨c2, c3⟩ := ba c
  exact ⟨He.eqO_ok c1, c2, c3⟩
theorem chkK_ok {K : PySem.W.Frag} {x : Str} {p : Str × Option Str} (c : chkK K x p = true) : Mk K (He.ga K x) (He.fAd K p) := by
  obtain ⟨c1, c⟩ := ba c
  obtain ⟨c2, c⟩ := ba c
  obtain ⟨c3, c4⟩ := ba c
  exact ⟨c1, He.eqO_ok c2, c3, c4⟩
theorem chkI_ok {K : PySem.W.Frag} {x : Str} {p : Str × Option Str} (c : chkI K x p = true) : InD K (He.ga K x) (He.fAd K p) := by
  obtain ⟨c1, c⟩ := ba c
  obtain ⟨c2, c3⟩ := ba c
  refine ⟨c1, He.eqO_ok c2, ?_⟩
  split at c3
  · rename_i a e
    rw [e, of_decide_eq_true c3]
  · cases c3
theorem chkB_ok {K : PySem.W.Frag} {x : Str} (c : chkB K x = true) : Bare K (He.ga K x) := by
  obtain ⟨c1, c⟩ := ba c
  obtain ⟨c2, c⟩ := ba c
  obtain ⟨c3, c4⟩ := ba c
  exact ⟨c1, He.eqO_ok c2, of_decide_eq_true c3, c4⟩
theorem chkD_ok {M : Mo} {at_ : Nat → Str × Option Str} {c : Nat} {cd : CD} {h : Heap} {mg : Str → Option Value} (X : M.K.In h) (G : h.Ns mainGlobals mg) (hc : M.ca c = He.ga M.K (M.nm c)) (hf : ∀ f, M.fa f = He.fAd M.K (at_ f)) (k : chkD M.nm at_ c cd M.K = true) (p : plnD M.nm M.G.fn cd = true) : ClsOk M mg c cd := by
  obtain ⟨k1, k2⟩ := ba k
  obtain ⟨k3, k4⟩ := ba k1
  obtain ⟨k5, k6⟩ := ba k4
  obtain ⟨k6, k9⟩ := ba k6
  obtain ⟨k7, k8⟩ := ba k2
  obtain ⟨p1, p2⟩ := ba p
  obtain ⟨p3, p4⟩ := ba p2
  refine ⟨by rw [hc]; exact He.cls_ok k3, fun f hm => by rw [hc]; exact He.noat_ok (List.all_eq_true.mp k7 f hm), fun f h1 g h2 e => of_decide_eq_true (List.all_eq_true.mp (List.all_eq_true.mp p3 f h1) g h2) e, fun m f e => ?_, fun nb => by rw [hc, hf]; rw [nb] at k6; exact chkK_ok (by simpa using k6), fun nb => by rw [nb] at p1; simpa using p1, fun hb => by rw [hc]; rw [hb] at k6; exact chkB_ok (by simpa using k6), by rw [hc]; exact He.glo_ok X G k5, fun hb => by rw [hc, hf]; rw [hb] at k9; exact chkI_ok (Bool.and_eq_true_iff.mp (show (true && chkI M.K (M.nm c) (at_ cd.init)) = true from k9)).2⟩
  obtain ⟨q1, q2⟩ := ba (List.all_eq_true.mp p4 _ (getM_mem e))
  exact ⟨by rw [hc, hf]; exact chkM_ok (List.all_eq_true.mp k8 _ (getM_mem e)), of_decide_eq_true q2, q1⟩
end Py

set_option Elab.async false
set_option linter.all false
set_option maxRecDepth 100000
set_option maxHeartbeats 0
/-! The link of law 44 (printed by gen.py). -/
namespace Py
open PySem PySem.Spec PyProof.Rows L2
def meT : Me := ⟨nmT, gfT, sgT⟩
abbrev moT (K : PySem.W.Frag) : Mo := ⟨meT, K, fun c => He.ga K (nmT c), fun f => He.fAd K (atT f)⟩
theorem gm__wall : mB meT true ["k"] (defScope gs__wall).names b__wall (defBody gs__wall) = true := by decide +kernel
theorem gc__wall : FnScope ["k"] ["k"] (defScope gs__wall) := C8.fnScope_by (by decide +kernel)
theorem gen__wall {K : PySem.W.Frag} (c : He.SaysD faT fnT K) : Ent (moT K) n__wall d__wall := by
  obtain ⟨fd, F⟩ := c.def_ 0 (d := ge__wall) rfl
  have F' : FunD K ge__wall.name ge__wall.qual ge__wall.params ge__wall.body ge__wall.scope [] (ge__wall.kws K) ((moT K).fa n__wall) fd := F
  exact ⟨_, _, _, _, _, _, _, _, _, fd, F', gc__wall, rfl, rfl, gm__wall, dfl0 (F'.bindsN (ps := ["k"]) fun _ _ _ _ _ _ us hl => match us, hl with | [_], _ => rfl) rfl, kwd0 rfl⟩
theorem gm_within : mB meT true ["number"] (defScope gs_within).names b_within (defBody gs_within) = true := by decide +kernel
theorem gc_within : FnScope ["number"] ["number"] (defScope gs_within) := C8.fnScope_by (by decide +kernel)
theorem gen_within {K : PySem.W.Frag} (c : He.SaysD faT fnT K) : Ent (moT K) n_within d_within := by
  obtain ⟨fd, F⟩ := c.def_ 1 (d := ge_within) rfl
  have F' : FunD K ge_within.name ge_within.qual ge_within.params ge_within.body ge_within.scope [] (ge_within.kws K) ((moT K).fa n_within) fd := F
  exact ⟨_, _, _, _, _, _, _, _, _, fd, F', gc_within, rfl, rfl, gm_within, dfl0 (F'.bindsN (ps := ["number"]) fun _ _ _ _ _ _ us hl => match us, hl with | [_], _ => rfl) rfl, kwd0 rfl⟩
theorem gm_two_told : mB meT true ["sign", "a", "b"] (defScope gs_two_told).names b_two_told (defBody gs_two_told) = true := by decide +kernel
theorem gc_two_told : FnScope ["sign", "a", "b"] ["sign", "a", "b"] (defScope gs_two_told) := C8.fnScope_by (by decide +kernel)
theorem gen_two_told {K : PySem.W.Frag} (c : He.SaysD faT fnT K) : Ent (moT K) n_two_told d_two_told := by
  obtain ⟨fd, F⟩ := c.def_ 2 (d := ge_two_told) rfl
  have F' : FunD K ge_two_told.name ge_two_told.qual ge_two_told.params ge_two_told.body ge_two_told.scope [] (ge_two_told.kws K) ((moT K).fa n_two_told) fd := F
  exact ⟨_, _, _, _, _, _, _, _, _, fd, F', gc_two_told, rfl, rfl, gm_two_told, dfl0 (F'.bindsN (ps := ["sign", "a", "b"]) fun _ _ _ _ _ _ us hl => match us, hl with | [_, _, _], _ => rfl) rfl, kwd0 rfl⟩
theorem gm_walked : mB meT true ["program", "numbers", "most", "walk", "params", "kind", "term", "param", "number"] (defScope gs_walked).names b_walked (defBody gs_walked) = true := by decide +kernel
theorem gc_walked : FnScope ["program", "numbers", "most", "walk", "params", "kind", "term", "param", "number"] ["program", "numbers", "most"] (defScope gs_walked) := C8.fnScope_by (by decide +kernel)
theorem gen_walked {K : PySem.W.Frag} (c : He.SaysD faT fnT K) : Ent (moT K) n_walked d_walked := by
  obtain ⟨fd, F⟩ := c.def_ 3 (d := ge_walked) rfl
  have F' : FunD K ge_walked.name ge_walked.qual ge_walked.params ge_walked.body ge_walked.scope [V.int 100] (ge_walked.kws K) ((moT K).fa n_walked) fd := F
  refine ⟨_, _, _, _, _, _, _, _, _, fd, F', gc_walked, rfl, rfl, gm_walked, ?_, ?_⟩
  · intro n hn hl
    have hn : n ≤ 3 := hn
    unfold fill at hl
    rw [List.length_append, List.length_replicate, List.length_drop] at hl
    have hl : n + (1 - (1 - (3 - n))) = 3 := hl
    have hc : n = 2 ∨ n = 3 := by omega
    rcases hc with rfl | rfl
    · obtain ⟨ds, r, b⟩ := FunD.binds1 (ps := ["program", "numbers", "most"]) F' 2 0 (by simp) rfl (fun T kV doc pm an cdv ct us its h1 h2 => match us, its, h1, h2 with | [_, _], [_], _, _ => ⟨_, rfl, rfl⟩)
      exact ⟨_, ds, r, b, fun H m => ⟨_, _, rfl, rfl, rfl⟩⟩
    · obtain ⟨ds, r, b⟩ := FunD.binds1 (ps := ["program", "numbers", "most"]) F' 3 1 (by simp) rfl (fun T kV doc pm an cdv ct us its h1 h2 => match us, its, h1, h2 with | [_, _, _], [_], _, _ => ⟨_, rfl, rfl⟩)
      exact ⟨_, ds, r, b, fun H m => rfl⟩
  · exact kwd0 rfl
theorem gm_plains : mB meT true ["terms", "term"] (defScope gs_plains).names b_plains (defBody gs_plains) = true := by decide +kernel
theorem gc_plains : FnScope ["terms", "term"] ["terms"] (defScope gs_plains) := C8.fnScope_by (by decide +kernel)
theorem gen_plains {K : PySem.W.Frag} (c : He.SaysD faT fnT K) : Ent (moT K) n_plains d_plains := by
  obtain ⟨fd, F⟩ := c.def_ 4 (d := ge_plains) rfl
  have F' : FunD K ge_plains.name ge_plains.qual ge_plains.params ge_plains.body ge_plains.scope [] (ge_plains.kws K) ((moT K).fa n_plains) fd := F
  exact ⟨_, _, _, _, _, _, _, _, _, fd, F', gc_plains, rfl, rfl, gm_plains, dfl0 (F'.bindsN (ps := ["terms"]) fun _ _ _ _ _ _ us hl => match us, hl with | [_], _ => rfl) rfl, kwd0 rfl⟩
theorem gm_leaf_of : mB meT true ["plain"] (defScope gs_leaf_of).names b_leaf_of (defBody gs_leaf_of) = true := by decide +kernel
theorem gc_leaf_of : FnScope ["plain"] ["plain"] (defScope gs_leaf_of) := C8.fnScope_by (by decide +kernel)
theorem gen_leaf_of {K : PySem.W.Frag} (c : He.SaysD faT fnT K) : Ent (moT K) n_leaf_of d_leaf_of := by
  obtain ⟨fd, F⟩ := c.def_ 5 (d := ge_leaf_of) rfl
  have F' : FunD K ge_leaf_of.name ge_leaf_of.qual ge_leaf_of.params ge_leaf_of.body ge_leaf_of.scope [] (ge_leaf_of.kws K) ((moT K).fa n_leaf_of) fd := F
  exact ⟨_, _, _, _, _, _, _, _, _, fd, F', gc_leaf_of, rfl, rfl, gm_leaf_of, dfl0 (F'.bindsN (ps := ["plain"]) fun _ _ _ _ _ _ us hl => match us, hl with | [_], _ => rfl) rfl, kwd0 rfl⟩
theorem gm_thing_term_of : mB meT true ["plain", "part"] (defScope gs_thing_term_of).names b_thing_term_of (defBody gs_thing_term_of) = true := by decide +kernel
theorem gc_thing_term_of : FnScope ["plain", "part"] ["plain"] (defScope gs_thing_term_of) := C8.fnScope_by (by decide +kernel)
theorem gen_thing_term_of {K : PySem.W.Frag} (c : He.SaysD faT fnT K) : Ent (moT K) n_thing_term_of d_thing_term_of := by
  obtain ⟨fd, F⟩ := c.def_ 6 (d := ge_thing_term_of) rfl
  have F' : FunD K ge_thing_term_of.name ge_thing_term_of.qual ge_thing_term_of.params ge_thing_term_of.body ge_thing_term_of.scope [] (ge_thing_term_of.kws K) ((moT K).fa n_thing_term_of) fd := F
  exact ⟨_, _, _, _, _, _, _, _, _, fd, F', gc_thing_term_of, rfl, rfl, gm_thing_term_of, dfl0 (F'.bindsN (ps := ["plain"]) fun _ _ _ _ _ _ us hl => match us, hl with | [_], _ => rfl) rfl, kwd0 rfl⟩
theorem gm_term_of : mB meT true ["plain", "found"] (defScope gs_term_of).names b_term_of (defBody gs_term_of) = true := by decide +kernel
theorem gc_term_of : FnScope ["plain", "found"] ["plain"] (defScope gs_term_of) := C8.fnScope_by (by decide +kernel)
theorem gen_term_of {K : PySem.W.Frag} (c : He.SaysD faT fnT K) : Ent (moT K) n_term_of d_term_of := by
  obtain ⟨fd, F⟩ := c.def_ 7 (d := ge_term_of) rfl
  have F' : FunD K ge_term_of.name ge_term_of.qual ge_term_of.params ge_term_of.body ge_term_of.scope [] (ge_term_of.kws K) ((moT K).fa n_term_of) fd := F
  exact ⟨_, _, _, _, _, _, _, _, _, fd, F', gc_term_of, rfl, rfl, gm_term_of, dfl0 (F'.bindsN (ps := ["plain"]) fun _ _ _ _ _ _ us hl => match us, hl with | [_], _ => rfl) rfl, kwd0 rfl⟩
theorem gm_program_of : mB meT true ["plain", "houses", "name", "elder", "fields", "told", "params", "kind", "term", "word"] (defScope gs_program_of).names b_program_of (defBody gs_program_of) = true := by decide +kernel
theorem gc_program_of : FnScope ["plain", "houses", "name", "elder", "fields", "told", "params", "kind", "term", "word"] ["plain"] (defScope gs_program_of) := C8.fnScope_by (by decide +kernel)
theorem gen_program_of {K : PySem.W.Frag} (c : He.SaysD faT fnT K) : Ent (moT K) n_program_of d_program_of := by
  obtain ⟨fd, F⟩ := c.def_ 8 (d := ge_program_of) rfl
  have F' : FunD K ge_program_of.name ge_program_of.qual ge_program_of.params ge_program_of.body ge_program_of.scope [] (ge_program_of.kws K) ((moT K).fa n_program_of) fd := F
  exact ⟨_, _, _, _, _, _, _, _, _, fd, F', gc_program_of, rfl, rfl, gm_program_of, dfl0 (F'.bindsN (ps := ["plain"]) fun _ _ _ _ _ _ us hl => match us, hl with | [_], _ => rfl) rfl, kwd0 rfl⟩
theorem gm__law_cell_at : mB meT true ["_law_script", "_law_k"] (defScope gs__law_cell_at).names b__law_cell_at (defBody gs__law_cell_at) = true := by decide +kernel
theorem gc__law_cell_at : FnScope ["_law_script", "_law_k"] ["_law_script", "_law_k"] (defScope gs__law_cell_at) := C8.fnScope_by (by decide +kernel)
theorem gen__law_cell_at {K : PySem.W.Frag} (c : He.SaysD faT fnT K) : Ent (moT K) n__law_cell_at d__law_cell_at := by
  obtain ⟨fd, F⟩ := c.def_ 9 (d := ge__law_cell_at) rfl
  have F' : FunD K ge__law_cell_at.name ge__law_cell_at.qual ge__law_cell_at.params ge__law_cell_at.body ge__law_cell_at.scope [] (ge__law_cell_at.kws K) ((moT K).fa n__law_cell_at) fd := F
  exact ⟨_, _, _, _, _, _, _, _, _, fd, F', gc__law_cell_at, rfl, rfl, gm__law_cell_at, dfl0 (F'.bindsN (ps := ["_law_script", "_law_k"]) fun _ _ _ _ _ _ us hl => match us, hl with | [_, _], _ => rfl) rfl, kwd0 rfl⟩
theorem gm__law_mixed : mB meT true ["_law_cell", "_law_k"] (defScope gs__law_mixed).names b__law_mixed (defBody gs__law_mixed) = true := by decide +kernel
theorem gc__law_mixed : FnScope ["_law_cell", "_law_k"] ["_law_cell", "_law_k"] (defScope gs__law_mixed) := C8.fnScope_by (by decide +kernel)
theorem gen__law_mixed {K : PySem.W.Frag} (c : He.SaysD faT fnT K) : Ent (moT K) n__law_mixed d__law_mixed := by
  obtain ⟨fd, F⟩ := c.def_ 10 (d := ge__law_mixed) rfl
  have F' : FunD K ge__law_mixed.name ge__law_mixed.qual ge__law_mixed.params ge__law_mixed.body ge__law_mixed.scope [] (ge__law_mixed.kws K) ((moT K).fa n__law_mixed) fd := F
  exact ⟨_, _, _, _, _, _, _, _, _, fd, F', gc__law_mixed, rfl, rfl, gm__law_mixed, dfl0 (F'.bindsN (ps := ["_law_cell", "_law_k"]) fun _ _ _ _ _ _ us hl => match us, hl with | [_, _], _ => rfl) rfl, kwd0 rfl⟩
theorem gm__law_tree : mB meT true ["_law_script", "_law_many", "_law_found", "_law_k", "_law_cell", "_law_elder", "_law_put"] (defScope gs__law_tree).names b__law_tree (defBody gs__law_tree) = true := by decide +kernel
theorem gc__law_tree : FnScope ["_law_script", "_law_many", "_law_found", "_law_k", "_law_cell", "_law_elder", "_law_put"] ["_law_script", "_law_many"] (defScope gs__law_tree) := C8.fnScope_by (by decide +kernel)
theorem gen__law_tree {K : PySem.W.Frag} (c : He.SaysD faT fnT K) : Ent (moT K) n__law_tree d__law_tree := by
  obtain ⟨fd, F⟩ := c.def_ 11 (d := ge__law_tree) rfl
  have F' : FunD K ge__law_tree.name ge__law_tree.qual ge__law_tree.params ge__law_tree.body ge__law_tree.scope [] (ge__law_tree.kws K) ((moT K).fa n__law_tree) fd := F
  exact ⟨_, _, _, _, _, _, _, _, _, fd, F', gc__law_tree, rfl, rfl, gm__law_tree, dfl0 (F'.bindsN (ps := ["_law_script", "_law_many"]) fun _ _ _ _ _ _ us hl => match us, hl with | [_, _], _ => rfl) rfl, kwd0 rfl⟩
theorem gm__law_told : mB meT true ["_law_tree_here", "_law_k", "_law_number", "_law_calls", "_law_more"] (defScope gs__law_told).names b__law_told (defBody gs__law_told) = true := by decide +kernel
theorem gc__law_told : FnScope ["_law_tree_here", "_law_k", "_law_number", "_law_calls", "_law_more"] ["_law_tree_here", "_law_k"] (defScope gs__law_told) := C8.fnScope_by (by decide +kernel)
theorem gen__law_told {K : PySem.W.Frag} (c : He.SaysD faT fnT K) : Ent (moT K) n__law_told d__law_told := by
  obtain ⟨fd, F⟩ := c.def_ 12 (d := ge__law_told) rfl
  have F' : FunD K ge__law_told.name ge__law_told.qual ge__law_told.params ge__law_told.body ge__law_told.scope [] (ge__law_told.kws K) ((moT K).fa n__law_told) fd := F
  exact ⟨_, _, _, _, _, _, _, _, _, fd, F', gc__law_told, rfl, rfl, gm__law_told, dfl0 (F'.bindsN (ps := ["_law_tree_here", "_law_k"]) fun _ _ _ _ _ _ us hl => match us, hl with | [_, _], _ => rfl) rfl, kwd0 rfl⟩
theorem gm__law_houses : mB meT true ["_law_tree_here", "_law_names", "_law_asks", "_law_me", "_law_found", "_law_k", "_law_told_here", "_law_body", "_law_elder"] (defScope gs__law_houses).names b__law_houses (defBody gs__law_houses) = true := by decide +kernel
theorem gc__law_houses : FnScope ["_law_tree_here", "_law_names", "_law_asks", "_law_me", "_law_found", "_law_k", "_law_told_here", "_law_body", "_law_elder"] ["_law_tree_here", "_law_names"] (defScope gs__law_houses) := C8.fnScope_by (by decide +kernel)
theorem gen__law_houses {K : PySem.W.Frag} (c : He.SaysD faT fnT K) : Ent (moT K) n__law_houses d__law_houses := by
  obtain ⟨fd, F⟩ := c.def_ 13 (d := ge__law_houses) rfl
  have F' : FunD K ge__law_houses.name ge__law_houses.qual ge__law_houses.params ge__law_houses.body ge__law_houses.scope [] (ge__law_houses.kws K) ((moT K).fa n__law_houses) fd := F
  exact ⟨_, _, _, _, _, _, _, _, _, fd, F', gc__law_houses, rfl, rfl, gm__law_houses, dfl0 (F'.bindsN (ps := ["_law_tree_here", "_law_names"]) fun _ _ _ _ _ _ us hl => match us, hl with | [_, _], _ => rfl) rfl, kwd0 rfl⟩
theorem gm__law_asked : mB meT true ["_law_names", "_law_way", "_law_k", "_law_made", "_law_kept"] (defScope gs__law_asked).names b__law_asked (defBody gs__law_asked) = true := by decide +kernel
theorem gc__law_asked : FnScope ["_law_names", "_law_way", "_law_k", "_law_made", "_law_kept"] ["_law_names", "_law_way", "_law_k"] (defScope gs__law_asked) := C8.fnScope_by (by decide +kernel)
theorem gen__law_asked {K : PySem.W.Frag} (c : He.SaysD faT fnT K) : Ent (moT K) n__law_asked d__law_asked := by
  obtain ⟨fd, F⟩ := c.def_ 14 (d := ge__law_asked) rfl
  have F' : FunD K ge__law_asked.name ge__law_asked.qual ge__law_asked.params ge__law_asked.body ge__law_asked.scope [] (ge__law_asked.kws K) ((moT K).fa n__law_asked) fd := F
  exact ⟨_, _, _, _, _, _, _, _, _, fd, F', gc__law_asked, rfl, rfl, gm__law_asked, dfl0 (F'.bindsN (ps := ["_law_names", "_law_way", "_law_k"]) fun _ _ _ _ _ _ us hl => match us, hl with | [_, _, _], _ => rfl) rfl, kwd0 rfl⟩
theorem gm_law : mB meT true ["_law_script", "_law_cell", "_law_many", "_law_names", "_law_tree_here", "_law_houses_here", "_law_at", "_law_body", "_law_total", "_law_calls", "_law_things", "_law_j", "_law_more", "_law_k", "_law_asked_here", "_law_made", "_law_besides", "_law_number", "_law_counted", "_law_name", "_law_values", "_law_program"] (defScope gs_law).names b_law (defBody gs_law) = true := by decide +kernel
theorem gc_law : FnScope ["_law_script", "_law_cell", "_law_many", "_law_names", "_law_tree_here", "_law_houses_here", "_law_at", "_law_body", "_law_total", "_law_calls", "_law_things", "_law_j", "_law_more", "_law_k", "_law_asked_here", "_law_made", "_law_besides", "_law_number", "_law_counted", "_law_name", "_law_values", "_law_program"] ["_law_script"] (defScope gs_law) := C8.fnScope_by (by decide +kernel)
theorem gen_law {K : PySem.W.Frag} (c : He.SaysD faT fnT K) : Ent (moT K) n_law d_law := by
  obtain ⟨fd, F⟩ := c.def_ 15 (d := ge_law) rfl
  have F' : FunD K ge_law.name ge_law.qual ge_law.params ge_law.body ge_law.scope [] (ge_law.kws K) ((moT K).fa n_law) fd := F
  exact ⟨_, _, _, _, _, _, _, _, _, fd, F', gc_law, rfl, rfl, gm_law, dfl0 (F'.bindsN (ps := ["_law_script"]) fun _ _ _ _ _ _ us hl => match us, hl with | [_], _ => rfl) rfl, kwd0 rfl⟩
theorem gm_Guest_at_number : mB meT true ["self", "term"] (defScope gs_Guest_at_number).names b_Guest_at_number (defBody gs_Guest_at_number) = true := by decide +kernel
theorem gc_Guest_at_number : FnScope ["self", "term"] ["self", "term"] (defScope gs_Guest_at_number) := C8.fnScope_by (by decide +kernel)
theorem gen_Guest_at_number {K : PySem.W.Frag} (c : He.SaysD faT fnT K) : Ent (moT K) n_Guest_at_number d_Guest_at_number := by
  obtain ⟨fd, F⟩ := c.def_ 16 (d := ge_Guest_at_number) rfl
  have F' : FunD K ge_Guest_at_number.name ge_Guest_at_number.qual ge_Guest_at_number.params ge_Guest_at_number.body ge_Guest_at_number.scope [] (ge_Guest_at_number.kws K) ((moT K).fa n_Guest_at_number) fd := F
  exact ⟨_, _, _, _, _, _, _, _, _, fd, F', gc_Guest_at_number, rfl, rfl, gm_Guest_at_number, dfl0 (F'.bindsN (ps := ["self", "term"]) fun _ _ _ _ _ _ us hl => match us, hl with | [_, _], _ => rfl) rfl, kwd0 rfl⟩
theorem gm_Guest_at_truth : mB meT true ["self", "term"] (defScope gs_Guest_at_truth).names b_Guest_at_truth (defBody gs_Guest_at_truth) = true := by decide +kernel
theorem gc_Guest_at_truth : FnScope ["self", "term"] ["self", "term"] (defScope gs_Guest_at_truth) := C8.fnScope_by (by decide +kernel)
theorem gen_Guest_at_truth {K : PySem.W.Frag} (c : He.SaysD faT fnT K) : Ent (moT K) n_Guest_at_truth d_Guest_at_truth := by
  obtain ⟨fd, F⟩ := c.def_ 17 (d := ge_Guest_at_truth) rfl
  have F' : FunD K ge_Guest_at_truth.name ge_Guest_at_truth.qual ge_Guest_at_truth.params ge_Guest_at_truth.body ge_Guest_at_truth.scope [] (ge_Guest_at_truth.kws K) ((moT K).fa n_Guest_at_truth) fd := F
  exact ⟨_, _, _, _, _, _, _, _, _, fd, F', gc_Guest_at_truth, rfl, rfl, gm_Guest_at_truth, dfl0 (F'.bindsN (ps := ["self", "term"]) fun _ _ _ _ _ _ us hl => match us, hl with | [_, _], _ => rfl) rfl, kwd0 rfl⟩
theorem gm_Guest_at_name : mB meT true ["self", "term"] (defScope gs_Guest_at_name).names b_Guest_at_name (defBody gs_Guest_at_name) = true := by decide +kernel
theorem gc_Guest_at_name : FnScope ["self", "term"] ["self", "term"] (defScope gs_Guest_at_name) := C8.fnScope_by (by decide +kernel)
theorem gen_Guest_at_name {K : PySem.W.Frag} (c : He.SaysD faT fnT K) : Ent (moT K) n_Guest_at_name d_Guest_at_name := by
  obtain ⟨fd, F⟩ := c.def_ 18 (d := ge_Guest_at_name) rfl
  have F' : FunD K ge_Guest_at_name.name ge_Guest_at_name.qual ge_Guest_at_name.params ge_Guest_at_name.body ge_Guest_at_name.scope [] (ge_Guest_at_name.kws K) ((moT K).fa n_Guest_at_name) fd := F
  exact ⟨_, _, _, _, _, _, _, _, _, fd, F', gc_Guest_at_name, rfl, rfl, gm_Guest_at_name, dfl0 (F'.bindsN (ps := ["self", "term"]) fun _ _ _ _ _ _ us hl => match us, hl with | [_, _], _ => rfl) rfl, kwd0 rfl⟩
theorem gm_Guest_at_self : mB meT true ["self", "term"] (defScope gs_Guest_at_self).names b_Guest_at_self (defBody gs_Guest_at_self) = true := by decide +kernel
theorem gc_Guest_at_self : FnScope ["self", "term"] ["self", "term"] (defScope gs_Guest_at_self) := C8.fnScope_by (by decide +kernel)
theorem gen_Guest_at_self {K : PySem.W.Frag} (c : He.SaysD faT fnT K) : Ent (moT K) n_Guest_at_self d_Guest_at_self := by
  obtain ⟨fd, F⟩ := c.def_ 19 (d := ge_Guest_at_self) rfl
  have F' : FunD K ge_Guest_at_self.name ge_Guest_at_self.qual ge_Guest_at_self.params ge_Guest_at_self.body ge_Guest_at_self.scope [] (ge_Guest_at_self.kws K) ((moT K).fa n_Guest_at_self) fd := F
  exact ⟨_, _, _, _, _, _, _, _, _, fd, F', gc_Guest_at_self, rfl, rfl, gm_Guest_at_self, dfl0 (F'.bindsN (ps := ["self", "term"]) fun _ _ _ _ _ _ us hl => match us, hl with | [_, _], _ => rfl) rfl, kwd0 rfl⟩
theorem gm_Guest_at_new : mB meT true ["self", "term"] (defScope gs_Guest_at_new).names b_Guest_at_new (defBody gs_Guest_at_new) = true := by decide +kernel
theorem gc_Guest_at_new : FnScope ["self", "term"] ["self", "term"] (defScope gs_Guest_at_new) := C8.fnScope_by (by decide +kernel)
theorem gen_Guest_at_new {K : PySem.W.Frag} (c : He.SaysD faT fnT K) : Ent (moT K) n_Guest_at_new d_Guest_at_new := by
  obtain ⟨fd, F⟩ := c.def_ 20 (d := ge_Guest_at_new) rfl
  have F' : FunD K ge_Guest_at_new.name ge_Guest_at_new.qual ge_Guest_at_new.params ge_Guest_at_new.body ge_Guest_at_new.scope [] (ge_Guest_at_new.kws K) ((moT K).fa n_Guest_at_new) fd := F
  exact ⟨_, _, _, _, _, _, _, _, _, fd, F', gc_Guest_at_new, rfl, rfl, gm_Guest_at_new, dfl0 (F'.bindsN (ps := ["self", "term"]) fun _ _ _ _ _ _ us hl => match us, hl with | [_, _], _ => rfl) rfl, kwd0 rfl⟩
theorem gm_Guest_at_elder : mB meT true ["self", "term"] (defScope gs_Guest_at_elder).names b_Guest_at_elder (defBody gs_Guest_at_elder) = true := by decide +kernel
theorem gc_Guest_at_elder : FnScope ["self", "term"] ["self", "term"] (defScope gs_Guest_at_elder) := C8.fnScope_by (by decide +kernel)
theorem gen_Guest_at_elder {K : PySem.W.Frag} (c : He.SaysD faT fnT K) : Ent (moT K) n_Guest_at_elder d_Guest_at_elder := by
  obtain ⟨fd, F⟩ := c.def_ 21 (d := ge_Guest_at_elder) rfl
  have F' : FunD K ge_Guest_at_elder.name ge_Guest_at_elder.qual ge_Guest_at_elder.params ge_Guest_at_elder.body ge_Guest_at_elder.scope [] (ge_Guest_at_elder.kws K) ((moT K).fa n_Guest_at_elder) fd := F
  exact ⟨_, _, _, _, _, _, _, _, _, fd, F', gc_Guest_at_elder, rfl, rfl, gm_Guest_at_elder, dfl0 (F'.bindsN (ps := ["self", "term"]) fun _ _ _ _ _ _ us hl => match us, hl with | [_, _], _ => rfl) rfl, kwd0 rfl⟩
theorem gm_Guest_at_field : mB meT true ["self", "term"] (defScope gs_Guest_at_field).names b_Guest_at_field (defBody gs_Guest_at_field) = true := by decide +kernel
theorem gc_Guest_at_field : FnScope ["self", "term"] ["self", "term"] (defScope gs_Guest_at_field) := C8.fnScope_by (by decide +kernel)
theorem gen_Guest_at_field {K : PySem.W.Frag} (c : He.SaysD faT fnT K) : Ent (moT K) n_Guest_at_field d_Guest_at_field := by
  obtain ⟨fd, F⟩ := c.def_ 22 (d := ge_Guest_at_field) rfl
  have F' : FunD K ge_Guest_at_field.name ge_Guest_at_field.qual ge_Guest_at_field.params ge_Guest_at_field.body ge_Guest_at_field.scope [] (ge_Guest_at_field.kws K) ((moT K).fa n_Guest_at_field) fd := F
  exact ⟨_, _, _, _, _, _, _, _, _, fd, F', gc_Guest_at_field, rfl, rfl, gm_Guest_at_field, dfl0 (F'.bindsN (ps := ["self", "term"]) fun _ _ _ _ _ _ us hl => match us, hl with | [_, _], _ => rfl) rfl, kwd0 rfl⟩
theorem gm_Guest_at_call : mB meT true ["self", "term"] (defScope gs_Guest_at_call).names b_Guest_at_call (defBody gs_Guest_at_call) = true := by decide +kernel
theorem gc_Guest_at_call : FnScope ["self", "term"] ["self", "term"] (defScope gs_Guest_at_call) := C8.fnScope_by (by decide +kernel)
theorem gen_Guest_at_call {K : PySem.W.Frag} (c : He.SaysD faT fnT K) : Ent (moT K) n_Guest_at_call d_Guest_at_call := by
  obtain ⟨fd, F⟩ := c.def_ 23 (d := ge_Guest_at_call) rfl
  have F' : FunD K ge_Guest_at_call.name ge_Guest_at_call.qual ge_Guest_at_call.params ge_Guest_at_call.body ge_Guest_at_call.scope [] (ge_Guest_at_call.kws K) ((moT K).fa n_Guest_at_call) fd := F
  exact ⟨_, _, _, _, _, _, _, _, _, fd, F', gc_Guest_at_call, rfl, rfl, gm_Guest_at_call, dfl0 (F'.bindsN (ps := ["self", "term"]) fun _ _ _ _ _ _ us hl => match us, hl with | [_, _], _ => rfl) rfl, kwd0 rfl⟩
theorem gm_Guest_at_not : mB meT true ["self", "term"] (defScope gs_Guest_at_not).names b_Guest_at_not (defBody gs_Guest_at_not) = true := by decide +kernel
theorem gc_Guest_at_not : FnScope ["self", "term"] ["self", "term"] (defScope gs_Guest_at_not) := C8.fnScope_by (by decide +kernel)
theorem gen_Guest_at_not {K : PySem.W.Frag} (c : He.SaysD faT fnT K) : Ent (moT K) n_Guest_at_not d_Guest_at_not := by
  obtain ⟨fd, F⟩ := c.def_ 24 (d := ge_Guest_at_not) rfl
  have F' : FunD K ge_Guest_at_not.name ge_Guest_at_not.qual ge_Guest_at_not.params ge_Guest_at_not.body ge_Guest_at_not.scope [] (ge_Guest_at_not.kws K) ((moT K).fa n_Guest_at_not) fd := F
  exact ⟨_, _, _, _, _, _, _, _, _, fd, F', gc_Guest_at_not, rfl, rfl, gm_Guest_at_not, dfl0 (F'.bindsN (ps := ["self", "term"]) fun _ _ _ _ _ _ us hl => match us, hl with | [_, _], _ => rfl) rfl, kwd0 rfl⟩
theorem gm_Guest_at_two : mB meT true ["self", "term"] (defScope gs_Guest_at_two).names b_Guest_at_two (defBody gs_Guest_at_two) = true := by decide +kernel
theorem gc_Guest_at_two : FnScope ["self", "term"] ["self", "term"] (defScope gs_Guest_at_two) := C8.fnScope_by (by decide +kernel)
theorem gen_Guest_at_two {K : PySem.W.Frag} (c : He.SaysD faT fnT K) : Ent (moT K) n_Guest_at_two d_Guest_at_two := by
  obtain ⟨fd, F⟩ := c.def_ 25 (d := ge_Guest_at_two) rfl
  have F' : FunD K ge_Guest_at_two.name ge_Guest_at_two.qual ge_Guest_at_two.params ge_Guest_at_two.body ge_Guest_at_two.scope [] (ge_Guest_at_two.kws K) ((moT K).fa n_Guest_at_two) fd := F
  exact ⟨_, _, _, _, _, _, _, _, _, fd, F', gc_Guest_at_two, rfl, rfl, gm_Guest_at_two, dfl0 (F'.bindsN (ps := ["self", "term"]) fun _ _ _ _ _ _ us hl => match us, hl with | [_, _], _ => rfl) rfl, kwd0 rfl⟩
theorem gm_Guest_at_if : mB meT true ["self", "term"] (defScope gs_Guest_at_if).names b_Guest_at_if (defBody gs_Guest_at_if) = true := by decide +kernel
theorem gc_Guest_at_if : FnScope ["self", "term"] ["self", "term"] (defScope gs_Guest_at_if) := C8.fnScope_by (by decide +kernel)
theorem gen_Guest_at_if {K : PySem.W.Frag} (c : He.SaysD faT fnT K) : Ent (moT K) n_Guest_at_if d_Guest_at_if := by
  obtain ⟨fd, F⟩ := c.def_ 26 (d := ge_Guest_at_if) rfl
  have F' : FunD K ge_Guest_at_if.name ge_Guest_at_if.qual ge_Guest_at_if.params ge_Guest_at_if.body ge_Guest_at_if.scope [] (ge_Guest_at_if.kws K) ((moT K).fa n_Guest_at_if) fd := F
  exact ⟨_, _, _, _, _, _, _, _, _, fd, F', gc_Guest_at_if, rfl, rfl, gm_Guest_at_if, dfl0 (F'.bindsN (ps := ["self", "term"]) fun _ _ _ _ _ _ us hl => match us, hl with | [_, _], _ => rfl) rfl, kwd0 rfl⟩
theorem gm_Guest_at_let : mB meT true ["self", "term"] (defScope gs_Guest_at_let).names b_Guest_at_let (defBody gs_Guest_at_let) = true := by decide +kernel
theorem gc_Guest_at_let : FnScope ["self", "term"] ["self", "term"] (defScope gs_Guest_at_let) := C8.fnScope_by (by decide +kernel)
theorem gen_Guest_at_let {K : PySem.W.Frag} (c : He.SaysD faT fnT K) : Ent (moT K) n_Guest_at_let d_Guest_at_let := by
  obtain ⟨fd, F⟩ := c.def_ 27 (d := ge_Guest_at_let) rfl
  have F' : FunD K ge_Guest_at_let.name ge_Guest_at_let.qual ge_Guest_at_let.params ge_Guest_at_let.body ge_Guest_at_let.scope [] (ge_Guest_at_let.kws K) ((moT K).fa n_Guest_at_let) fd := F
  exact ⟨_, _, _, _, _, _, _, _, _, fd, F', gc_Guest_at_let, rfl, rfl, gm_Guest_at_let, dfl0 (F'.bindsN (ps := ["self", "term"]) fun _ _ _ _ _ _ us hl => match us, hl with | [_, _], _ => rfl) rfl, kwd0 rfl⟩
theorem gm_Guest_at_set : mB meT true ["self", "term"] (defScope gs_Guest_at_set).names b_Guest_at_set (defBody gs_Guest_at_set) = true := by decide +kernel
theorem gc_Guest_at_set : FnScope ["self", "term"] ["self", "term"] (defScope gs_Guest_at_set) := C8.fnScope_by (by decide +kernel)
theorem gen_Guest_at_set {K : PySem.W.Frag} (c : He.SaysD faT fnT K) : Ent (moT K) n_Guest_at_set d_Guest_at_set := by
  obtain ⟨fd, F⟩ := c.def_ 28 (d := ge_Guest_at_set) rfl
  have F' : FunD K ge_Guest_at_set.name ge_Guest_at_set.qual ge_Guest_at_set.params ge_Guest_at_set.body ge_Guest_at_set.scope [] (ge_Guest_at_set.kws K) ((moT K).fa n_Guest_at_set) fd := F
  exact ⟨_, _, _, _, _, _, _, _, _, fd, F', gc_Guest_at_set, rfl, rfl, gm_Guest_at_set, dfl0 (F'.bindsN (ps := ["self", "term"]) fun _ _ _ _ _ _ us hl => match us, hl with | [_, _], _ => rfl) rfl, kwd0 rfl⟩
theorem gm_Hall___init__ : mB meT true ["self", "program", "name", "elder", "fields", "told", "word"] (defScope gs_Hall___init__).names b_Hall___init__ (defBody gs_Hall___init__) = true := by decide +kernel
theorem gc_Hall___init__ : FnScope ["self", "program", "name", "elder", "fields", "told", "word"] ["self", "program"] (defScope gs_Hall___init__) := C8.fnScope_by (by decide +kernel)
theorem gen_Hall___init__ {K : PySem.W.Frag} (c : He.SaysD faT fnT K) : Ent (moT K) n_Hall___init__ d_Hall___init__ := by
  obtain ⟨fd, F⟩ := c.def_ 29 (d := ge_Hall___init__) rfl
  have F' : FunD K ge_Hall___init__.name ge_Hall___init__.qual ge_Hall___init__.params ge_Hall___init__.body ge_Hall___init__.scope [] (ge_Hall___init__.kws K) ((moT K).fa n_Hall___init__) fd := F
  exact ⟨_, _, _, _, _, _, _, _, _, fd, F', gc_Hall___init__, rfl, rfl, gm_Hall___init__, dfl0 (F'.bindsN (ps := ["self", "program"]) fun _ _ _ _ _ _ us hl => match us, hl with | [_, _], _ => rfl) rfl, kwd0 rfl⟩
theorem gm_Hall_houses : mB meT true ["self"] (defScope gs_Hall_houses).names b_Hall_houses (defBody gs_Hall_houses) = true := by decide +kernel
theorem gc_Hall_houses : FnScope ["self"] ["self"] (defScope gs_Hall_houses) := C8.fnScope_by (by decide +kernel)
theorem gen_Hall_houses {K : PySem.W.Frag} (c : He.SaysD faT fnT K) : Ent (moT K) n_Hall_houses d_Hall_houses := by
  obtain ⟨fd, F⟩ := c.def_ 30 (d := ge_Hall_houses) rfl
  have F' : FunD K ge_Hall_houses.name ge_Hall_houses.qual ge_Hall_houses.params ge_Hall_houses.body ge_Hall_houses.scope [] (ge_Hall_houses.kws K) ((moT K).fa n_Hall_houses) fd := F
  exact ⟨_, _, _, _, _, _, _, _, _, fd, F', gc_Hall_houses, rfl, rfl, gm_Hall_houses, dfl0 (F'.bindsN (ps := ["self"]) fun _ _ _ _ _ _ us hl => match us, hl with | [_], _ => rfl) rfl, kwd0 rfl⟩
theorem gm_Hall_elders : mB meT true ["self", "house", "found", "one"] (defScope gs_Hall_elders).names b_Hall_elders (defBody gs_Hall_elders) = true := by decide +kernel
theorem gc_Hall_elders : FnScope ["self", "house", "found", "one"] ["self", "house"] (defScope gs_Hall_elders) := C8.fnScope_by (by decide +kernel)
theorem gen_Hall_elders {K : PySem.W.Frag} (c : He.SaysD faT fnT K) : Ent (moT K) n_Hall_elders d_Hall_elders := by
  obtain ⟨fd, F⟩ := c.def_ 31 (d := ge_Hall_elders) rfl
  have F' : FunD K ge_Hall_elders.name ge_Hall_elders.qual ge_Hall_elders.params ge_Hall_elders.body ge_Hall_elders.scope [] (ge_Hall_elders.kws K) ((moT K).fa n_Hall_elders) fd := F
  exact ⟨_, _, _, _, _, _, _, _, _, fd, F', gc_Hall_elders, rfl, rfl, gm_Hall_elders, dfl0 (F'.bindsN (ps := ["self", "house"]) fun _ _ _ _ _ _ us hl => match us, hl with | [_, _], _ => rfl) rfl, kwd0 rfl⟩
theorem gm_Hall_younger : mB meT true ["self", "house"] (defScope gs_Hall_younger).names b_Hall_younger (defBody gs_Hall_younger) = true := by decide +kernel
theorem gc_Hall_younger : FnScope ["self", "house"] ["self", "house"] (defScope gs_Hall_younger) := C8.fnScope_by (by decide +kernel)
theorem gen_Hall_younger {K : PySem.W.Frag} (c : He.SaysD faT fnT K) : Ent (moT K) n_Hall_younger d_Hall_younger := by
  obtain ⟨fd, F⟩ := c.def_ 32 (d := ge_Hall_younger) rfl
  have F' : FunD K ge_Hall_younger.name ge_Hall_younger.qual ge_Hall_younger.params ge_Hall_younger.body ge_Hall_younger.scope [] (ge_Hall_younger.kws K) ((moT K).fa n_Hall_younger) fd := F
  exact ⟨_, _, _, _, _, _, _, _, _, fd, F', gc_Hall_younger, rfl, rfl, gm_Hall_younger, dfl0 (F'.bindsN (ps := ["self", "house"]) fun _ _ _ _ _ _ us hl => match us, hl with | [_, _], _ => rfl) rfl, kwd0 rfl⟩
theorem gm_Hall_fields : mB meT true ["self", "house", "found", "one"] (defScope gs_Hall_fields).names b_Hall_fields (defBody gs_Hall_fields) = true := by decide +kernel
theorem gc_Hall_fields : FnScope ["self", "house", "found", "one"] ["self", "house"] (defScope gs_Hall_fields) := C8.fnScope_by (by decide +kernel)
theorem gen_Hall_fields {K : PySem.W.Frag} (c : He.SaysD faT fnT K) : Ent (moT K) n_Hall_fields d_Hall_fields := by
  obtain ⟨fd, F⟩ := c.def_ 33 (d := ge_Hall_fields) rfl
  have F' : FunD K ge_Hall_fields.name ge_Hall_fields.qual ge_Hall_fields.params ge_Hall_fields.body ge_Hall_fields.scope [] (ge_Hall_fields.kws K) ((moT K).fa n_Hall_fields) fd := F
  exact ⟨_, _, _, _, _, _, _, _, _, fd, F', gc_Hall_fields, rfl, rfl, gm_Hall_fields, dfl0 (F'.bindsN (ps := ["self", "house"]) fun _ _ _ _ _ _ us hl => match us, hl with | [_, _], _ => rfl) rfl, kwd0 rfl⟩
theorem gm_Hall_place : mB meT true ["self", "house", "field", "spot", "row"] (defScope gs_Hall_place).names b_Hall_place (defBody gs_Hall_place) = true := by decide +kernel
theorem gc_Hall_place : FnScope ["self", "house", "field", "spot", "row"] ["self", "house", "field"] (defScope gs_Hall_place) := C8.fnScope_by (by decide +kernel)
theorem gen_Hall_place {K : PySem.W.Frag} (c : He.SaysD faT fnT K) : Ent (moT K) n_Hall_place d_Hall_place := by
  obtain ⟨fd, F⟩ := c.def_ 34 (d := ge_Hall_place) rfl
  have F' : FunD K ge_Hall_place.name ge_Hall_place.qual ge_Hall_place.params ge_Hall_place.body ge_Hall_place.scope [] (ge_Hall_place.kws K) ((moT K).fa n_Hall_place) fd := F
  exact ⟨_, _, _, _, _, _, _, _, _, fd, F', gc_Hall_place, rfl, rfl, gm_Hall_place, dfl0 (F'.bindsN (ps := ["self", "house", "field"]) fun _ _ _ _ _ _ us hl => match us, hl with | [_, _, _], _ => rfl) rfl, kwd0 rfl⟩
theorem gm_Hall_found : mB meT true ["self", "house", "word", "one", "number", "row"] (defScope gs_Hall_found).names b_Hall_found (defBody gs_Hall_found) = true := by decide +kernel
theorem gc_Hall_found : FnScope ["self", "house", "word", "one", "number", "row"] ["self", "house", "word"] (defScope gs_Hall_found) := C8.fnScope_by (by decide +kernel)
theorem gen_Hall_found {K : PySem.W.Frag} (c : He.SaysD faT fnT K) : Ent (moT K) n_Hall_found d_Hall_found := by
  obtain ⟨fd, F⟩ := c.def_ 35 (d := ge_Hall_found) rfl
  have F' : FunD K ge_Hall_found.name ge_Hall_found.qual ge_Hall_found.params ge_Hall_found.body ge_Hall_found.scope [] (ge_Hall_found.kws K) ((moT K).fa n_Hall_found) fd := F
  exact ⟨_, _, _, _, _, _, _, _, _, fd, F', gc_Hall_found, rfl, rfl, gm_Hall_found, dfl0 (F'.bindsN (ps := ["self", "house", "word"]) fun _ _ _ _ _ _ us hl => match us, hl with | [_, _, _], _ => rfl) rfl, kwd0 rfl⟩
theorem gm_Hall_head : mB meT true ["self", "house", "word"] (defScope gs_Hall_head).names b_Hall_head (defBody gs_Hall_head) = true := by decide +kernel
theorem gc_Hall_head : FnScope ["self", "house", "word"] ["self", "house", "word"] (defScope gs_Hall_head) := C8.fnScope_by (by decide +kernel)
theorem gen_Hall_head {K : PySem.W.Frag} (c : He.SaysD faT fnT K) : Ent (moT K) n_Hall_head d_Hall_head := by
  obtain ⟨fd, F⟩ := c.def_ 36 (d := ge_Hall_head) rfl
  have F' : FunD K ge_Hall_head.name ge_Hall_head.qual ge_Hall_head.params ge_Hall_head.body ge_Hall_head.scope [] (ge_Hall_head.kws K) ((moT K).fa n_Hall_head) fd := F
  exact ⟨_, _, _, _, _, _, _, _, _, fd, F', gc_Hall_head, rfl, rfl, gm_Hall_head, dfl0 (F'.bindsN (ps := ["self", "house", "word"]) fun _ _ _ _ _ _ us hl => match us, hl with | [_, _, _], _ => rfl) rfl, kwd0 rfl⟩
theorem gm_Wait_goes_on : mB meT true ["self", "walk", "value"] (defScope gs_Wait_goes_on).names b_Wait_goes_on (defBody gs_Wait_goes_on) = true := by decide +kernel
theorem gc_Wait_goes_on : FnScope ["self", "walk", "value"] ["self", "walk", "value"] (defScope gs_Wait_goes_on) := C8.fnScope_by (by decide +kernel)
theorem gen_Wait_goes_on {K : PySem.W.Frag} (c : He.SaysD faT fnT K) : Ent (moT K) n_Wait_goes_on d_Wait_goes_on := by
  obtain ⟨fd, F⟩ := c.def_ 37 (d := ge_Wait_goes_on) rfl
  have F' : FunD K ge_Wait_goes_on.name ge_Wait_goes_on.qual ge_Wait_goes_on.params ge_Wait_goes_on.body ge_Wait_goes_on.scope [] (ge_Wait_goes_on.kws K) ((moT K).fa n_Wait_goes_on) fd := F
  exact ⟨_, _, _, _, _, _, _, _, _, fd, F', gc_Wait_goes_on, rfl, rfl, gm_Wait_goes_on, dfl0 (F'.bindsN (ps := ["self", "walk", "value"]) fun _ _ _ _ _ _ us hl => match us, hl with | [_, _, _], _ => rfl) rfl, kwd0 rfl⟩
theorem gm_GatherWait___init__ : mB meT true ["self", "terms"] (defScope gs_GatherWait___init__).names b_GatherWait___init__ (defBody gs_GatherWait___init__) = true := by decide +kernel
theorem gc_GatherWait___init__ : FnScope ["self", "terms"] ["self", "terms"] (defScope gs_GatherWait___init__) := C8.fnScope_by (by decide +kernel)
theorem gen_GatherWait___init__ {K : PySem.W.Frag} (c : He.SaysD faT fnT K) : Ent (moT K) n_GatherWait___init__ d_GatherWait___init__ := by
  obtain ⟨fd, F⟩ := c.def_ 38 (d := ge_GatherWait___init__) rfl
  have F' : FunD K ge_GatherWait___init__.name ge_GatherWait___init__.qual ge_GatherWait___init__.params ge_GatherWait___init__.body ge_GatherWait___init__.scope [] (ge_GatherWait___init__.kws K) ((moT K).fa n_GatherWait___init__) fd := F
  exact ⟨_, _, _, _, _, _, _, _, _, fd, F', gc_GatherWait___init__, rfl, rfl, gm_GatherWait___init__, dfl0 (F'.bindsN (ps := ["self", "terms"]) fun _ _ _ _ _ _ us hl => match us, hl with | [_, _], _ => rfl) rfl, kwd0 rfl⟩
theorem gm_GatherWait_begins : mB meT true ["self", "walk"] (defScope gs_GatherWait_begins).names b_GatherWait_begins (defBody gs_GatherWait_begins) = true := by decide +kernel
theorem gc_GatherWait_begins : FnScope ["self", "walk"] ["self", "walk"] (defScope gs_GatherWait_begins) := C8.fnScope_by (by decide +kernel)
theorem gen_GatherWait_begins {K : PySem.W.Frag} (c : He.SaysD faT fnT K) : Ent (moT K) n_GatherWait_begins d_GatherWait_begins := by
  obtain ⟨fd, F⟩ := c.def_ 39 (d := ge_GatherWait_begins) rfl
  have F' : FunD K ge_GatherWait_begins.name ge_GatherWait_begins.qual ge_GatherWait_begins.params ge_GatherWait_begins.body ge_GatherWait_begins.scope [] (ge_GatherWait_begins.kws K) ((moT K).fa n_GatherWait_begins) fd := F
  exact ⟨_, _, _, _, _, _, _, _, _, fd, F', gc_GatherWait_begins, rfl, rfl, gm_GatherWait_begins, dfl0 (F'.bindsN (ps := ["self", "walk"]) fun _ _ _ _ _ _ us hl => match us, hl with | [_, _], _ => rfl) rfl, kwd0 rfl⟩
theorem gm_GatherWait_goes_on : mB meT true ["self", "walk", "value"] (defScope gs_GatherWait_goes_on).names b_GatherWait_goes_on (defBody gs_GatherWait_goes_on) = true := by decide +kernel
theorem gc_GatherWait_goes_on : FnScope ["self", "walk", "value"] ["self", "walk", "value"] (defScope gs_GatherWait_goes_on) := C8.fnScope_by (by decide +kernel)
theorem gen_GatherWait_goes_on {K : PySem.W.Frag} (c : He.SaysD faT fnT K) : Ent (moT K) n_GatherWait_goes_on d_GatherWait_goes_on := by
  obtain ⟨fd, F⟩ := c.def_ 40 (d := ge_GatherWait_goes_on) rfl
  have F' : FunD K ge_GatherWait_goes_on.name ge_GatherWait_goes_on.qual ge_GatherWait_goes_on.params ge_GatherWait_goes_on.body ge_GatherWait_goes_on.scope [] (ge_GatherWait_goes_on.kws K) ((moT K).fa n_GatherWait_goes_on) fd := F
  exact ⟨_, _, _, _, _, _, _, _, _, fd, F', gc_GatherWait_goes_on, rfl, rfl, gm_GatherWait_goes_on, dfl0 (F'.bindsN (ps := ["self", "walk", "value"]) fun _ _ _ _ _ _ us hl => match us, hl with | [_, _, _], _ => rfl) rfl, kwd0 rfl⟩
theorem gm_GatherWait_gathered : mB meT true ["self", "walk"] (defScope gs_GatherWait_gathered).names b_GatherWait_gathered (defBody gs_GatherWait_gathered) = true := by decide +kernel
theorem gc_GatherWait_gathered : FnScope ["self", "walk"] ["self", "walk"] (defScope gs_GatherWait_gathered) := C8.fnScope_by (by decide +kernel)
theorem gen_GatherWait_gathered {K : PySem.W.Frag} (c : He.SaysD faT fnT K) : Ent (moT K) n_GatherWait_gathered d_GatherWait_gathered := by
  obtain ⟨fd, F⟩ := c.def_ 41 (d := ge_GatherWait_gathered) rfl
  have F' : FunD K ge_GatherWait_gathered.name ge_GatherWait_gathered.qual ge_GatherWait_gathered.params ge_GatherWait_gathered.body ge_GatherWait_gathered.scope [] (ge_GatherWait_gathered.kws K) ((moT K).fa n_GatherWait_gathered) fd := F
  exact ⟨_, _, _, _, _, _, _, _, _, fd, F', gc_GatherWait_gathered, rfl, rfl, gm_GatherWait_gathered, dfl0 (F'.bindsN (ps := ["self", "walk"]) fun _ _ _ _ _ _ us hl => match us, hl with | [_, _], _ => rfl) rfl, kwd0 rfl⟩
theorem gm_NewWait___init__ : mB meT true ["self", "term"] (defScope gs_NewWait___init__).names b_NewWait___init__ (defBody gs_NewWait___init__) = true := by decide +kernel
theorem gc_NewWait___init__ : FnScope ["self", "term"] ["self", "term"] (defScope gs_NewWait___init__) := C8.fnScope_by (by decide +kernel)
theorem gen_NewWait___init__ {K : PySem.W.Frag} (c : He.SaysD faT fnT K) : Ent (moT K) n_NewWait___init__ d_NewWait___init__ := by
  obtain ⟨fd, F⟩ := c.def_ 42 (d := ge_NewWait___init__) rfl
  have F' : FunD K ge_NewWait___init__.name ge_NewWait___init__.qual ge_NewWait___init__.params ge_NewWait___init__.body ge_NewWait___init__.scope [] (ge_NewWait___init__.kws K) ((moT K).fa n_NewWait___init__) fd := F
  exact ⟨_, _, _, _, _, _, _, _, _, fd, F', gc_NewWait___init__, rfl, rfl, gm_NewWait___init__, dfl0 (F'.bindsN (ps := ["self", "term"]) fun _ _ _ _ _ _ us hl => match us, hl with | [_, _], _ => rfl) rfl, kwd0 rfl⟩
theorem gm_NewWait_gathered : mB meT true ["self", "walk"] (defScope gs_NewWait_gathered).names b_NewWait_gathered (defBody gs_NewWait_gathered) = true := by decide +kernel
theorem gc_NewWait_gathered : FnScope ["self", "walk"] ["self", "walk"] (defScope gs_NewWait_gathered) := C8.fnScope_by (by decide +kernel)
theorem gen_NewWait_gathered {K : PySem.W.Frag} (c : He.SaysD faT fnT K) : Ent (moT K) n_NewWait_gathered d_NewWait_gathered := by
  obtain ⟨fd, F⟩ := c.def_ 43 (d := ge_NewWait_gathered) rfl
  have F' : FunD K ge_NewWait_gathered.name ge_NewWait_gathered.qual ge_NewWait_gathered.params ge_NewWait_gathered.body ge_NewWait_gathered.scope [] (ge_NewWait_gathered.kws K) ((moT K).fa n_NewWait_gathered) fd := F
  exact ⟨_, _, _, _, _, _, _, _, _, fd, F', gc_NewWait_gathered, rfl, rfl, gm_NewWait_gathered, dfl0 (F'.bindsN (ps := ["self", "walk"]) fun _ _ _ _ _ _ us hl => match us, hl with | [_, _], _ => rfl) rfl, kwd0 rfl⟩
theorem gm_CallWait___init__ : mB meT true ["self", "term"] (defScope gs_CallWait___init__).names b_CallWait___init__ (defBody gs_CallWait___init__) = true := by decide +kernel
theorem gc_CallWait___init__ : FnScope ["self", "term"] ["self", "term"] (defScope gs_CallWait___init__) := C8.fnScope_by (by decide +kernel)
theorem gen_CallWait___init__ {K : PySem.W.Frag} (c : He.SaysD faT fnT K) : Ent (moT K) n_CallWait___init__ d_CallWait___init__ := by
  obtain ⟨fd, F⟩ := c.def_ 44 (d := ge_CallWait___init__) rfl
  have F' : FunD K ge_CallWait___init__.name ge_CallWait___init__.qual ge_CallWait___init__.params ge_CallWait___init__.body ge_CallWait___init__.scope [] (ge_CallWait___init__.kws K) ((moT K).fa n_CallWait___init__) fd := F
  exact ⟨_, _, _, _, _, _, _, _, _, fd, F', gc_CallWait___init__, rfl, rfl, gm_CallWait___init__, dfl0 (F'.bindsN (ps := ["self", "term"]) fun _ _ _ _ _ _ us hl => match us, hl with | [_, _], _ => rfl) rfl, kwd0 rfl⟩
theorem gm_CallWait_gathered : mB meT true ["self", "walk", "thing", "spot"] (defScope gs_CallWait_gathered).names b_CallWait_gathered (defBody gs_CallWait_gathered) = true := by decide +kernel
theorem gc_CallWait_gathered : FnScope ["self", "walk", "thing", "spot"] ["self", "walk"] (defScope gs_CallWait_gathered) := C8.fnScope_by (by decide +kernel)
theorem gen_CallWait_gathered {K : PySem.W.Frag} (c : He.SaysD faT fnT K) : Ent (moT K) n_CallWait_gathered d_CallWait_gathered := by
  obtain ⟨fd, F⟩ := c.def_ 45 (d := ge_CallWait_gathered) rfl
  have F' : FunD K ge_CallWait_gathered.name ge_CallWait_gathered.qual ge_CallWait_gathered.params ge_CallWait_gathered.body ge_CallWait_gathered.scope [] (ge_CallWait_gathered.kws K) ((moT K).fa n_CallWait_gathered) fd := F
  exact ⟨_, _, _, _, _, _, _, _, _, fd, F', gc_CallWait_gathered, rfl, rfl, gm_CallWait_gathered, dfl0 (F'.bindsN (ps := ["self", "walk"]) fun _ _ _ _ _ _ us hl => match us, hl with | [_, _], _ => rfl) rfl, kwd0 rfl⟩
theorem gm_ElderWait___init__ : mB meT true ["self", "term"] (defScope gs_ElderWait___init__).names b_ElderWait___init__ (defBody gs_ElderWait___init__) = true := by decide +kernel
theorem gc_ElderWait___init__ : FnScope ["self", "term"] ["self", "term"] (defScope gs_ElderWait___init__) := C8.fnScope_by (by decide +kernel)
theorem gen_ElderWait___init__ {K : PySem.W.Frag} (c : He.SaysD faT fnT K) : Ent (moT K) n_ElderWait___init__ d_ElderWait___init__ := by
  obtain ⟨fd, F⟩ := c.def_ 46 (d := ge_ElderWait___init__) rfl
  have F' : FunD K ge_ElderWait___init__.name ge_ElderWait___init__.qual ge_ElderWait___init__.params ge_ElderWait___init__.body ge_ElderWait___init__.scope [] (ge_ElderWait___init__.kws K) ((moT K).fa n_ElderWait___init__) fd := F
  exact ⟨_, _, _, _, _, _, _, _, _, fd, F', gc_ElderWait___init__, rfl, rfl, gm_ElderWait___init__, dfl0 (F'.bindsN (ps := ["self", "term"]) fun _ _ _ _ _ _ us hl => match us, hl with | [_, _], _ => rfl) rfl, kwd0 rfl⟩
theorem gm_ElderWait_gathered : mB meT true ["self", "walk", "elder"] (defScope gs_ElderWait_gathered).names b_ElderWait_gathered (defBody gs_ElderWait_gathered) = true := by decide +kernel
theorem gc_ElderWait_gathered : FnScope ["self", "walk", "elder"] ["self", "walk"] (defScope gs_ElderWait_gathered) := C8.fnScope_by (by decide +kernel)
theorem gen_ElderWait_gathered {K : PySem.W.Frag} (c : He.SaysD faT fnT K) : Ent (moT K) n_ElderWait_gathered d_ElderWait_gathered := by
  obtain ⟨fd, F⟩ := c.def_ 47 (d := ge_ElderWait_gathered) rfl
  have F' : FunD K ge_ElderWait_gathered.name ge_ElderWait_gathered.qual ge_ElderWait_gathered.params ge_ElderWait_gathered.body ge_ElderWait_gathered.scope [] (ge_ElderWait_gathered.kws K) ((moT K).fa n_ElderWait_gathered) fd := F
  exact ⟨_, _, _, _, _, _, _, _, _, fd, F', gc_ElderWait_gathered, rfl, rfl, gm_ElderWait_gathered, dfl0 (F'.bindsN (ps := ["self", "walk"]) fun _ _ _ _ _ _ us hl => match us, hl with | [_, _], _ => rfl) rfl, kwd0 rfl⟩
theorem gm_TwoWait___init__ : mB meT true ["self", "term"] (defScope gs_TwoWait___init__).names b_TwoWait___init__ (defBody gs_TwoWait___init__) = true := by decide +kernel
theorem gc_TwoWait___init__ : FnScope ["self", "term"] ["self", "term"] (defScope gs_TwoWait___init__) := C8.fnScope_by (by decide +kernel)
theorem gen_TwoWait___init__ {K : PySem.W.Frag} (c : He.SaysD faT fnT K) : Ent (moT K) n_TwoWait___init__ d_TwoWait___init__ := by
  obtain ⟨fd, F⟩ := c.def_ 48 (d := ge_TwoWait___init__) rfl
  have F' : FunD K ge_TwoWait___init__.name ge_TwoWait___init__.qual ge_TwoWait___init__.params ge_TwoWait___init__.body ge_TwoWait___init__.scope [] (ge_TwoWait___init__.kws K) ((moT K).fa n_TwoWait___init__) fd := F
  exact ⟨_, _, _, _, _, _, _, _, _, fd, F', gc_TwoWait___init__, rfl, rfl, gm_TwoWait___init__, dfl0 (F'.bindsN (ps := ["self", "term"]) fun _ _ _ _ _ _ us hl => match us, hl with | [_, _], _ => rfl) rfl, kwd0 rfl⟩
theorem gm_TwoWait_gathered : mB meT true ["self", "walk", "one", "other", "word", "found"] (defScope gs_TwoWait_gathered).names b_TwoWait_gathered (defBody gs_TwoWait_gathered) = true := by decide +kernel
theorem gc_TwoWait_gathered : FnScope ["self", "walk", "one", "other", "word", "found"] ["self", "walk"] (defScope gs_TwoWait_gathered) := C8.fnScope_by (by decide +kernel)
theorem gen_TwoWait_gathered {K : PySem.W.Frag} (c : He.SaysD faT fnT K) : Ent (moT K) n_TwoWait_gathered d_TwoWait_gathered := by
  obtain ⟨fd, F⟩ := c.def_ 49 (d := ge_TwoWait_gathered) rfl
  have F' : FunD K ge_TwoWait_gathered.name ge_TwoWait_gathered.qual ge_TwoWait_gathered.params ge_TwoWait_gathered.body ge_TwoWait_gathered.scope [] (ge_TwoWait_gathered.kws K) ((moT K).fa n_TwoWait_gathered) fd := F
  exact ⟨_, _, _, _, _, _, _, _, _, fd, F', gc_TwoWait_gathered, rfl, rfl, gm_TwoWait_gathered, dfl0 (F'.bindsN (ps := ["self", "walk"]) fun _ _ _ _ _ _ us hl => match us, hl with | [_, _], _ => rfl) rfl, kwd0 rfl⟩
theorem gm_SetWait___init__ : mB meT true ["self", "term"] (defScope gs_SetWait___init__).names b_SetWait___init__ (defBody gs_SetWait___init__) = true := by decide +kernel
theorem gc_SetWait___init__ : FnScope ["self", "term"] ["self", "term"] (defScope gs_SetWait___init__) := C8.fnScope_by (by decide +kernel)
theorem gen_SetWait___init__ {K : PySem.W.Frag} (c : He.SaysD faT fnT K) : Ent (moT K) n_SetWait___init__ d_SetWait___init__ := by
  obtain ⟨fd, F⟩ := c.def_ 50 (d := ge_SetWait___init__) rfl
  have F' : FunD K ge_SetWait___init__.name ge_SetWait___init__.qual ge_SetWait___init__.params ge_SetWait___init__.body ge_SetWait___init__.scope [] (ge_SetWait___init__.kws K) ((moT K).fa n_SetWait___init__) fd := F
  exact ⟨_, _, _, _, _, _, _, _, _, fd, F', gc_SetWait___init__, rfl, rfl, gm_SetWait___init__, dfl0 (F'.bindsN (ps := ["self", "term"]) fun _ _ _ _ _ _ us hl => match us, hl with | [_, _], _ => rfl) rfl, kwd0 rfl⟩
theorem gm_SetWait_gathered : mB meT true ["self", "walk", "thing", "value", "house", "held", "at"] (defScope gs_SetWait_gathered).names b_SetWait_gathered (defBody gs_SetWait_gathered) = true := by decide +kernel
theorem gc_SetWait_gathered : FnScope ["self", "walk", "thing", "value", "house", "held", "at"] ["self", "walk"] (defScope gs_SetWait_gathered) := C8.fnScope_by (by decide +kernel)
theorem gen_SetWait_gathered {K : PySem.W.Frag} (c : He.SaysD faT fnT K) : Ent (moT K) n_SetWait_gathered d_SetWait_gathered := by
  obtain ⟨fd, F⟩ := c.def_ 51 (d := ge_SetWait_gathered) rfl
  have F' : FunD K ge_SetWait_gathered.name ge_SetWait_gathered.qual ge_SetWait_gathered.params ge_SetWait_gathered.body ge_SetWait_gathered.scope [] (ge_SetWait_gathered.kws K) ((moT K).fa n_SetWait_gathered) fd := F
  exact ⟨_, _, _, _, _, _, _, _, _, fd, F', gc_SetWait_gathered, rfl, rfl, gm_SetWait_gathered, dfl0 (F'.bindsN (ps := ["self", "walk"]) fun _ _ _ _ _ _ us hl => match us, hl with | [_, _], _ => rfl) rfl, kwd0 rfl⟩
theorem gm_FieldWait___init__ : mB meT true ["self", "called"] (defScope gs_FieldWait___init__).names b_FieldWait___init__ (defBody gs_FieldWait___init__) = true := by decide +kernel
theorem gc_FieldWait___init__ : FnScope ["self", "called"] ["self", "called"] (defScope gs_FieldWait___init__) := C8.fnScope_by (by decide +kernel)
theorem gen_FieldWait___init__ {K : PySem.W.Frag} (c : He.SaysD faT fnT K) : Ent (moT K) n_FieldWait___init__ d_FieldWait___init__ := by
  obtain ⟨fd, F⟩ := c.def_ 52 (d := ge_FieldWait___init__) rfl
  have F' : FunD K ge_FieldWait___init__.name ge_FieldWait___init__.qual ge_FieldWait___init__.params ge_FieldWait___init__.body ge_FieldWait___init__.scope [] (ge_FieldWait___init__.kws K) ((moT K).fa n_FieldWait___init__) fd := F
  exact ⟨_, _, _, _, _, _, _, _, _, fd, F', gc_FieldWait___init__, rfl, rfl, gm_FieldWait___init__, dfl0 (F'.bindsN (ps := ["self", "called"]) fun _ _ _ _ _ _ us hl => match us, hl with | [_, _], _ => rfl) rfl, kwd0 rfl⟩
theorem gm_FieldWait_goes_on : mB meT true ["self", "walk", "value", "house", "held"] (defScope gs_FieldWait_goes_on).names b_FieldWait_goes_on (defBody gs_FieldWait_goes_on) = true := by decide +kernel
theorem gc_FieldWait_goes_on : FnScope ["self", "walk", "value", "house", "held"] ["self", "walk", "value"] (defScope gs_FieldWait_goes_on) := C8.fnScope_by (by decide +kernel)
theorem gen_FieldWait_goes_on {K : PySem.W.Frag} (c : He.SaysD faT fnT K) : Ent (moT K) n_FieldWait_goes_on d_FieldWait_goes_on := by
  obtain ⟨fd, F⟩ := c.def_ 53 (d := ge_FieldWait_goes_on) rfl
  have F' : FunD K ge_FieldWait_goes_on.name ge_FieldWait_goes_on.qual ge_FieldWait_goes_on.params ge_FieldWait_goes_on.body ge_FieldWait_goes_on.scope [] (ge_FieldWait_goes_on.kws K) ((moT K).fa n_FieldWait_goes_on) fd := F
  exact ⟨_, _, _, _, _, _, _, _, _, fd, F', gc_FieldWait_goes_on, rfl, rfl, gm_FieldWait_goes_on, dfl0 (F'.bindsN (ps := ["self", "walk", "value"]) fun _ _ _ _ _ _ us hl => match us, hl with | [_, _, _], _ => rfl) rfl, kwd0 rfl⟩
theorem gm_NotWait_goes_on : mB meT true ["self", "walk", "value"] (defScope gs_NotWait_goes_on).names b_NotWait_goes_on (defBody gs_NotWait_goes_on) = true := by decide +kernel
theorem gc_NotWait_goes_on : FnScope ["self", "walk", "value"] ["self", "walk", "value"] (defScope gs_NotWait_goes_on) := C8.fnScope_by (by decide +kernel)
theorem gen_NotWait_goes_on {K : PySem.W.Frag} (c : He.SaysD faT fnT K) : Ent (moT K) n_NotWait_goes_on d_NotWait_goes_on := by
  obtain ⟨fd, F⟩ := c.def_ 54 (d := ge_NotWait_goes_on) rfl
  have F' : FunD K ge_NotWait_goes_on.name ge_NotWait_goes_on.qual ge_NotWait_goes_on.params ge_NotWait_goes_on.body ge_NotWait_goes_on.scope [] (ge_NotWait_goes_on.kws K) ((moT K).fa n_NotWait_goes_on) fd := F
  exact ⟨_, _, _, _, _, _, _, _, _, fd, F', gc_NotWait_goes_on, rfl, rfl, gm_NotWait_goes_on, dfl0 (F'.bindsN (ps := ["self", "walk", "value"]) fun _ _ _ _ _ _ us hl => match us, hl with | [_, _, _], _ => rfl) rfl, kwd0 rfl⟩
theorem gm_IfWait___init__ : mB meT true ["self", "other", "third"] (defScope gs_IfWait___init__).names b_IfWait___init__ (defBody gs_IfWait___init__) = true := by decide +kernel
theorem gc_IfWait___init__ : FnScope ["self", "other", "third"] ["self", "other", "third"] (defScope gs_IfWait___init__) := C8.fnScope_by (by decide +kernel)
theorem gen_IfWait___init__ {K : PySem.W.Frag} (c : He.SaysD faT fnT K) : Ent (moT K) n_IfWait___init__ d_IfWait___init__ := by
  obtain ⟨fd, F⟩ := c.def_ 55 (d := ge_IfWait___init__) rfl
  have F' : FunD K ge_IfWait___init__.name ge_IfWait___init__.qual ge_IfWait___init__.params ge_IfWait___init__.body ge_IfWait___init__.scope [] (ge_IfWait___init__.kws K) ((moT K).fa n_IfWait___init__) fd := F
  exact ⟨_, _, _, _, _, _, _, _, _, fd, F', gc_IfWait___init__, rfl, rfl, gm_IfWait___init__, dfl0 (F'.bindsN (ps := ["self", "other", "third"]) fun _ _ _ _ _ _ us hl => match us, hl with | [_, _, _], _ => rfl) rfl, kwd0 rfl⟩
theorem gm_IfWait_goes_on : mB meT true ["self", "walk", "value"] (defScope gs_IfWait_goes_on).names b_IfWait_goes_on (defBody gs_IfWait_goes_on) = true := by decide +kernel
theorem gc_IfWait_goes_on : FnScope ["self", "walk", "value"] ["self", "walk", "value"] (defScope gs_IfWait_goes_on) := C8.fnScope_by (by decide +kernel)
theorem gen_IfWait_goes_on {K : PySem.W.Frag} (c : He.SaysD faT fnT K) : Ent (moT K) n_IfWait_goes_on d_IfWait_goes_on := by
  obtain ⟨fd, F⟩ := c.def_ 56 (d := ge_IfWait_goes_on) rfl
  have F' : FunD K ge_IfWait_goes_on.name ge_IfWait_goes_on.qual ge_IfWait_goes_on.params ge_IfWait_goes_on.body ge_IfWait_goes_on.scope [] (ge_IfWait_goes_on.kws K) ((moT K).fa n_IfWait_goes_on) fd := F
  exact ⟨_, _, _, _, _, _, _, _, _, fd, F', gc_IfWait_goes_on, rfl, rfl, gm_IfWait_goes_on, dfl0 (F'.bindsN (ps := ["self", "walk", "value"]) fun _ _ _ _ _ _ us hl => match us, hl with | [_, _, _], _ => rfl) rfl, kwd0 rfl⟩
theorem gm_LetWait___init__ : mB meT true ["self", "called", "other"] (defScope gs_LetWait___init__).names b_LetWait___init__ (defBody gs_LetWait___init__) = true := by decide +kernel
theorem gc_LetWait___init__ : FnScope ["self", "called", "other"] ["self", "called", "other"] (defScope gs_LetWait___init__) := C8.fnScope_by (by decide +kernel)
theorem gen_LetWait___init__ {K : PySem.W.Frag} (c : He.SaysD faT fnT K) : Ent (moT K) n_LetWait___init__ d_LetWait___init__ := by
  obtain ⟨fd, F⟩ := c.def_ 57 (d := ge_LetWait___init__) rfl
  have F' : FunD K ge_LetWait___init__.name ge_LetWait___init__.qual ge_LetWait___init__.params ge_LetWait___init__.body ge_LetWait___init__.scope [] (ge_LetWait___init__.kws K) ((moT K).fa n_LetWait___init__) fd := F
  exact ⟨_, _, _, _, _, _, _, _, _, fd, F', gc_LetWait___init__, rfl, rfl, gm_LetWait___init__, dfl0 (F'.bindsN (ps := ["self", "called", "other"]) fun _ _ _ _ _ _ us hl => match us, hl with | [_, _, _], _ => rfl) rfl, kwd0 rfl⟩
theorem gm_LetWait_goes_on : mB meT true ["self", "walk", "value"] (defScope gs_LetWait_goes_on).names b_LetWait_goes_on (defBody gs_LetWait_goes_on) = true := by decide +kernel
theorem gc_LetWait_goes_on : FnScope ["self", "walk", "value"] ["self", "walk", "value"] (defScope gs_LetWait_goes_on) := C8.fnScope_by (by decide +kernel)
theorem gen_LetWait_goes_on {K : PySem.W.Frag} (c : He.SaysD faT fnT K) : Ent (moT K) n_LetWait_goes_on d_LetWait_goes_on := by
  obtain ⟨fd, F⟩ := c.def_ 58 (d := ge_LetWait_goes_on) rfl
  have F' : FunD K ge_LetWait_goes_on.name ge_LetWait_goes_on.qual ge_LetWait_goes_on.params ge_LetWait_goes_on.body ge_LetWait_goes_on.scope [] (ge_LetWait_goes_on.kws K) ((moT K).fa n_LetWait_goes_on) fd := F
  exact ⟨_, _, _, _, _, _, _, _, _, fd, F', gc_LetWait_goes_on, rfl, rfl, gm_LetWait_goes_on, dfl0 (F'.bindsN (ps := ["self", "walk", "value"]) fun _ _ _ _ _ _ us hl => match us, hl with | [_, _, _], _ => rfl) rfl, kwd0 rfl⟩
theorem gm_LooseWait___init__ : mB meT true ["self", "bound"] (defScope gs_LooseWait___init__).names b_LooseWait___init__ (defBody gs_LooseWait___init__) = true := by decide +kernel
theorem gc_LooseWait___init__ : FnScope ["self", "bound"] ["self", "bound"] (defScope gs_LooseWait___init__) := C8.fnScope_by (by decide +kernel)
theorem gen_LooseWait___init__ {K : PySem.W.Frag} (c : He.SaysD faT fnT K) : Ent (moT K) n_LooseWait___init__ d_LooseWait___init__ := by
  obtain ⟨fd, F⟩ := c.def_ 59 (d := ge_LooseWait___init__) rfl
  have F' : FunD K ge_LooseWait___init__.name ge_LooseWait___init__.qual ge_LooseWait___init__.params ge_LooseWait___init__.body ge_LooseWait___init__.scope [] (ge_LooseWait___init__.kws K) ((moT K).fa n_LooseWait___init__) fd := F
  exact ⟨_, _, _, _, _, _, _, _, _, fd, F', gc_LooseWait___init__, rfl, rfl, gm_LooseWait___init__, dfl0 (F'.bindsN (ps := ["self", "bound"]) fun _ _ _ _ _ _ us hl => match us, hl with | [_, _], _ => rfl) rfl, kwd0 rfl⟩
theorem gm_LooseWait_goes_on : mB meT true ["self", "walk", "value"] (defScope gs_LooseWait_goes_on).names b_LooseWait_goes_on (defBody gs_LooseWait_goes_on) = true := by decide +kernel
theorem gc_LooseWait_goes_on : FnScope ["self", "walk", "value"] ["self", "walk", "value"] (defScope gs_LooseWait_goes_on) := C8.fnScope_by (by decide +kernel)
theorem gen_LooseWait_goes_on {K : PySem.W.Frag} (c : He.SaysD faT fnT K) : Ent (moT K) n_LooseWait_goes_on d_LooseWait_goes_on := by
  obtain ⟨fd, F⟩ := c.def_ 60 (d := ge_LooseWait_goes_on) rfl
  have F' : FunD K ge_LooseWait_goes_on.name ge_LooseWait_goes_on.qual ge_LooseWait_goes_on.params ge_LooseWait_goes_on.body ge_LooseWait_goes_on.scope [] (ge_LooseWait_goes_on.kws K) ((moT K).fa n_LooseWait_goes_on) fd := F
  exact ⟨_, _, _, _, _, _, _, _, _, fd, F', gc_LooseWait_goes_on, rfl, rfl, gm_LooseWait_goes_on, dfl0 (F'.bindsN (ps := ["self", "walk", "value"]) fun _ _ _ _ _ _ us hl => match us, hl with | [_, _, _], _ => rfl) rfl, kwd0 rfl⟩
theorem gm_BackWait___init__ : mB meT true ["self", "bound", "own", "home"] (defScope gs_BackWait___init__).names b_BackWait___init__ (defBody gs_BackWait___init__) = true := by decide +kernel
theorem gc_BackWait___init__ : FnScope ["self", "bound", "own", "home"] ["self", "bound", "own", "home"] (defScope gs_BackWait___init__) := C8.fnScope_by (by decide +kernel)
theorem gen_BackWait___init__ {K : PySem.W.Frag} (c : He.SaysD faT fnT K) : Ent (moT K) n_BackWait___init__ d_BackWait___init__ := by
  obtain ⟨fd, F⟩ := c.def_ 61 (d := ge_BackWait___init__) rfl
  have F' : FunD K ge_BackWait___init__.name ge_BackWait___init__.qual ge_BackWait___init__.params ge_BackWait___init__.body ge_BackWait___init__.scope [] (ge_BackWait___init__.kws K) ((moT K).fa n_BackWait___init__) fd := F
  exact ⟨_, _, _, _, _, _, _, _, _, fd, F', gc_BackWait___init__, rfl, rfl, gm_BackWait___init__, dfl0 (F'.bindsN (ps := ["self", "bound", "own", "home"]) fun _ _ _ _ _ _ us hl => match us, hl with | [_, _, _, _], _ => rfl) rfl, kwd0 rfl⟩
theorem gm_BackWait_goes_on : mB meT true ["self", "walk", "value"] (defScope gs_BackWait_goes_on).names b_BackWait_goes_on (defBody gs_BackWait_goes_on) = true := by decide +kernel
theorem gc_BackWait_goes_on : FnScope ["self", "walk", "value"] ["self", "walk", "value"] (defScope gs_BackWait_goes_on) := C8.fnScope_by (by decide +kernel)
theorem gen_BackWait_goes_on {K : PySem.W.Frag} (c : He.SaysD faT fnT K) : Ent (moT K) n_BackWait_goes_on d_BackWait_goes_on := by
  obtain ⟨fd, F⟩ := c.def_ 62 (d := ge_BackWait_goes_on) rfl
  have F' : FunD K ge_BackWait_goes_on.name ge_BackWait_goes_on.qual ge_BackWait_goes_on.params ge_BackWait_goes_on.body ge_BackWait_goes_on.scope [] (ge_BackWait_goes_on.kws K) ((moT K).fa n_BackWait_goes_on) fd := F
  exact ⟨_, _, _, _, _, _, _, _, _, fd, F', gc_BackWait_goes_on, rfl, rfl, gm_BackWait_goes_on, dfl0 (F'.bindsN (ps := ["self", "walk", "value"]) fun _ _ _ _ _ _ us hl => match us, hl with | [_, _, _], _ => rfl) rfl, kwd0 rfl⟩
theorem gm_Walk___init__ : mB meT true ["self", "program", "most", "house"] (defScope gs_Walk___init__).names b_Walk___init__ (defBody gs_Walk___init__) = true := by decide +kernel
theorem gc_Walk___init__ : FnScope ["self", "program", "most", "house"] ["self", "program", "most"] (defScope gs_Walk___init__) := C8.fnScope_by (by decide +kernel)
theorem gen_Walk___init__ {K : PySem.W.Frag} (c : He.SaysD faT fnT K) : Ent (moT K) n_Walk___init__ d_Walk___init__ := by
  obtain ⟨fd, F⟩ := c.def_ 63 (d := ge_Walk___init__) rfl
  have F' : FunD K ge_Walk___init__.name ge_Walk___init__.qual ge_Walk___init__.params ge_Walk___init__.body ge_Walk___init__.scope [] (ge_Walk___init__.kws K) ((moT K).fa n_Walk___init__) fd := F
  exact ⟨_, _, _, _, _, _, _, _, _, fd, F', gc_Walk___init__, rfl, rfl, gm_Walk___init__, dfl0 (F'.bindsN (ps := ["self", "program", "most"]) fun _ _ _ _ _ _ us hl => match us, hl with | [_, _, _], _ => rfl) rfl, kwd0 rfl⟩
theorem gm_Walk_at_number : mB meT true ["self", "term"] (defScope gs_Walk_at_number).names b_Walk_at_number (defBody gs_Walk_at_number) = true := by decide +kernel
theorem gc_Walk_at_number : FnScope ["self", "term"] ["self", "term"] (defScope gs_Walk_at_number) := C8.fnScope_by (by decide +kernel)
theorem gen_Walk_at_number {K : PySem.W.Frag} (c : He.SaysD faT fnT K) : Ent (moT K) n_Walk_at_number d_Walk_at_number := by
  obtain ⟨fd, F⟩ := c.def_ 64 (d := ge_Walk_at_number) rfl
  have F' : FunD K ge_Walk_at_number.name ge_Walk_at_number.qual ge_Walk_at_number.params ge_Walk_at_number.body ge_Walk_at_number.scope [] (ge_Walk_at_number.kws K) ((moT K).fa n_Walk_at_number) fd := F
  exact ⟨_, _, _, _, _, _, _, _, _, fd, F', gc_Walk_at_number, rfl, rfl, gm_Walk_at_number, dfl0 (F'.bindsN (ps := ["self", "term"]) fun _ _ _ _ _ _ us hl => match us, hl with | [_, _], _ => rfl) rfl, kwd0 rfl⟩
theorem gm_Walk_at_truth : mB meT true ["self", "term"] (defScope gs_Walk_at_truth).names b_Walk_at_truth (defBody gs_Walk_at_truth) = true := by decide +kernel
theorem gc_Walk_at_truth : FnScope ["self", "term"] ["self", "term"] (defScope gs_Walk_at_truth) := C8.fnScope_by (by decide +kernel)
theorem gen_Walk_at_truth {K : PySem.W.Frag} (c : He.SaysD faT fnT K) : Ent (moT K) n_Walk_at_truth d_Walk_at_truth := by
  obtain ⟨fd, F⟩ := c.def_ 65 (d := ge_Walk_at_truth) rfl
  have F' : FunD K ge_Walk_at_truth.name ge_Walk_at_truth.qual ge_Walk_at_truth.params ge_Walk_at_truth.body ge_Walk_at_truth.scope [] (ge_Walk_at_truth.kws K) ((moT K).fa n_Walk_at_truth) fd := F
  exact ⟨_, _, _, _, _, _, _, _, _, fd, F', gc_Walk_at_truth, rfl, rfl, gm_Walk_at_truth, dfl0 (F'.bindsN (ps := ["self", "term"]) fun _ _ _ _ _ _ us hl => match us, hl with | [_, _], _ => rfl) rfl, kwd0 rfl⟩
theorem gm_Walk_at_name : mB meT true ["self", "term", "called", "value"] (defScope gs_Walk_at_name).names b_Walk_at_name (defBody gs_Walk_at_name) = true := by decide +kernel
theorem gc_Walk_at_name : FnScope ["self", "term", "called", "value"] ["self", "term"] (defScope gs_Walk_at_name) := C8.fnScope_by (by decide +kernel)
theorem gen_Walk_at_name {K : PySem.W.Frag} (c : He.SaysD faT fnT K) : Ent (moT K) n_Walk_at_name d_Walk_at_name := by
  obtain ⟨fd, F⟩ := c.def_ 66 (d := ge_Walk_at_name) rfl
  have F' : FunD K ge_Walk_at_name.name ge_Walk_at_name.qual ge_Walk_at_name.params ge_Walk_at_name.body ge_Walk_at_name.scope [] (ge_Walk_at_name.kws K) ((moT K).fa n_Walk_at_name) fd := F
  exact ⟨_, _, _, _, _, _, _, _, _, fd, F', gc_Walk_at_name, rfl, rfl, gm_Walk_at_name, dfl0 (F'.bindsN (ps := ["self", "term"]) fun _ _ _ _ _ _ us hl => match us, hl with | [_, _], _ => rfl) rfl, kwd0 rfl⟩
theorem gm_Walk_at_self : mB meT true ["self", "term"] (defScope gs_Walk_at_self).names b_Walk_at_self (defBody gs_Walk_at_self) = true := by decide +kernel
theorem gc_Walk_at_self : FnScope ["self", "term"] ["self", "term"] (defScope gs_Walk_at_self) := C8.fnScope_by (by decide +kernel)
theorem gen_Walk_at_self {K : PySem.W.Frag} (c : He.SaysD faT fnT K) : Ent (moT K) n_Walk_at_self d_Walk_at_self := by
  obtain ⟨fd, F⟩ := c.def_ 67 (d := ge_Walk_at_self) rfl
  have F' : FunD K ge_Walk_at_self.name ge_Walk_at_self.qual ge_Walk_at_self.params ge_Walk_at_self.body ge_Walk_at_self.scope [] (ge_Walk_at_self.kws K) ((moT K).fa n_Walk_at_self) fd := F
  exact ⟨_, _, _, _, _, _, _, _, _, fd, F', gc_Walk_at_self, rfl, rfl, gm_Walk_at_self, dfl0 (F'.bindsN (ps := ["self", "term"]) fun _ _ _ _ _ _ us hl => match us, hl with | [_, _], _ => rfl) rfl, kwd0 rfl⟩
theorem gm_Walk_at_new : mB meT true ["self", "term"] (defScope gs_Walk_at_new).names b_Walk_at_new (defBody gs_Walk_at_new) = true := by decide +kernel
theorem gc_Walk_at_new : FnScope ["self", "term"] ["self", "term"] (defScope gs_Walk_at_new) := C8.fnScope_by (by decide +kernel)
theorem gen_Walk_at_new {K : PySem.W.Frag} (c : He.SaysD faT fnT K) : Ent (moT K) n_Walk_at_new d_Walk_at_new := by
  obtain ⟨fd, F⟩ := c.def_ 68 (d := ge_Walk_at_new) rfl
  have F' : FunD K ge_Walk_at_new.name ge_Walk_at_new.qual ge_Walk_at_new.params ge_Walk_at_new.body ge_Walk_at_new.scope [] (ge_Walk_at_new.kws K) ((moT K).fa n_Walk_at_new) fd := F
  exact ⟨_, _, _, _, _, _, _, _, _, fd, F', gc_Walk_at_new, rfl, rfl, gm_Walk_at_new, dfl0 (F'.bindsN (ps := ["self", "term"]) fun _ _ _ _ _ _ us hl => match us, hl with | [_, _], _ => rfl) rfl, kwd0 rfl⟩
theorem gm_Walk_at_elder : mB meT true ["self", "term"] (defScope gs_Walk_at_elder).names b_Walk_at_elder (defBody gs_Walk_at_elder) = true := by decide +kernel
theorem gc_Walk_at_elder : FnScope ["self", "term"] ["self", "term"] (defScope gs_Walk_at_elder) := C8.fnScope_by (by decide +kernel)
theorem gen_Walk_at_elder {K : PySem.W.Frag} (c : He.SaysD faT fnT K) : Ent (moT K) n_Walk_at_elder d_Walk_at_elder := by
  obtain ⟨fd, F⟩ := c.def_ 69 (d := ge_Walk_at_elder) rfl
  have F' : FunD K ge_Walk_at_elder.name ge_Walk_at_elder.qual ge_Walk_at_elder.params ge_Walk_at_elder.body ge_Walk_at_elder.scope [] (ge_Walk_at_elder.kws K) ((moT K).fa n_Walk_at_elder) fd := F
  exact ⟨_, _, _, _, _, _, _, _, _, fd, F', gc_Walk_at_elder, rfl, rfl, gm_Walk_at_elder, dfl0 (F'.bindsN (ps := ["self", "term"]) fun _ _ _ _ _ _ us hl => match us, hl with | [_, _], _ => rfl) rfl, kwd0 rfl⟩
theorem gm_Walk_at_call : mB meT true ["self", "term"] (defScope gs_Walk_at_call).names b_Walk_at_call (defBody gs_Walk_at_call) = true := by decide +kernel
theorem gc_Walk_at_call : FnScope ["self", "term"] ["self", "term"] (defScope gs_Walk_at_call) := C8.fnScope_by (by decide +kernel)
theorem gen_Walk_at_call {K : PySem.W.Frag} (c : He.SaysD faT fnT K) : Ent (moT K) n_Walk_at_call d_Walk_at_call := by
  obtain ⟨fd, F⟩ := c.def_ 70 (d := ge_Walk_at_call) rfl
  have F' : FunD K ge_Walk_at_call.name ge_Walk_at_call.qual ge_Walk_at_call.params ge_Walk_at_call.body ge_Walk_at_call.scope [] (ge_Walk_at_call.kws K) ((moT K).fa n_Walk_at_call) fd := F
  exact ⟨_, _, _, _, _, _, _, _, _, fd, F', gc_Walk_at_call, rfl, rfl, gm_Walk_at_call, dfl0 (F'.bindsN (ps := ["self", "term"]) fun _ _ _ _ _ _ us hl => match us, hl with | [_, _], _ => rfl) rfl, kwd0 rfl⟩
theorem gm_Walk_at_two : mB meT true ["self", "term"] (defScope gs_Walk_at_two).names b_Walk_at_two (defBody gs_Walk_at_two) = true := by decide +kernel
theorem gc_Walk_at_two : FnScope ["self", "term"] ["self", "term"] (defScope gs_Walk_at_two) := C8.fnScope_by (by decide +kernel)
theorem gen_Walk_at_two {K : PySem.W.Frag} (c : He.SaysD faT fnT K) : Ent (moT K) n_Walk_at_two d_Walk_at_two := by
  obtain ⟨fd, F⟩ := c.def_ 71 (d := ge_Walk_at_two) rfl
  have F' : FunD K ge_Walk_at_two.name ge_Walk_at_two.qual ge_Walk_at_two.params ge_Walk_at_two.body ge_Walk_at_two.scope [] (ge_Walk_at_two.kws K) ((moT K).fa n_Walk_at_two) fd := F
  exact ⟨_, _, _, _, _, _, _, _, _, fd, F', gc_Walk_at_two, rfl, rfl, gm_Walk_at_two, dfl0 (F'.bindsN (ps := ["self", "term"]) fun _ _ _ _ _ _ us hl => match us, hl with | [_, _], _ => rfl) rfl, kwd0 rfl⟩
theorem gm_Walk_at_set : mB meT true ["self", "term"] (defScope gs_Walk_at_set).names b_Walk_at_set (defBody gs_Walk_at_set) = true := by decide +kernel
theorem gc_Walk_at_set : FnScope ["self", "term"] ["self", "term"] (defScope gs_Walk_at_set) := C8.fnScope_by (by decide +kernel)
theorem gen_Walk_at_set {K : PySem.W.Frag} (c : He.SaysD faT fnT K) : Ent (moT K) n_Walk_at_set d_Walk_at_set := by
  obtain ⟨fd, F⟩ := c.def_ 72 (d := ge_Walk_at_set) rfl
  have F' : FunD K ge_Walk_at_set.name ge_Walk_at_set.qual ge_Walk_at_set.params ge_Walk_at_set.body ge_Walk_at_set.scope [] (ge_Walk_at_set.kws K) ((moT K).fa n_Walk_at_set) fd := F
  exact ⟨_, _, _, _, _, _, _, _, _, fd, F', gc_Walk_at_set, rfl, rfl, gm_Walk_at_set, dfl0 (F'.bindsN (ps := ["self", "term"]) fun _ _ _ _ _ _ us hl => match us, hl with | [_, _], _ => rfl) rfl, kwd0 rfl⟩
theorem gm_Walk_at_field : mB meT true ["self", "term"] (defScope gs_Walk_at_field).names b_Walk_at_field (defBody gs_Walk_at_field) = true := by decide +kernel
theorem gc_Walk_at_field : FnScope ["self", "term"] ["self", "term"] (defScope gs_Walk_at_field) := C8.fnScope_by (by decide +kernel)
theorem gen_Walk_at_field {K : PySem.W.Frag} (c : He.SaysD faT fnT K) : Ent (moT K) n_Walk_at_field d_Walk_at_field := by
  obtain ⟨fd, F⟩ := c.def_ 73 (d := ge_Walk_at_field) rfl
  have F' : FunD K ge_Walk_at_field.name ge_Walk_at_field.qual ge_Walk_at_field.params ge_Walk_at_field.body ge_Walk_at_field.scope [] (ge_Walk_at_field.kws K) ((moT K).fa n_Walk_at_field) fd := F
  exact ⟨_, _, _, _, _, _, _, _, _, fd, F', gc_Walk_at_field, rfl, rfl, gm_Walk_at_field, dfl0 (F'.bindsN (ps := ["self", "term"]) fun _ _ _ _ _ _ us hl => match us, hl with | [_, _], _ => rfl) rfl, kwd0 rfl⟩
theorem gm_Walk_at_not : mB meT true ["self", "term"] (defScope gs_Walk_at_not).names b_Walk_at_not (defBody gs_Walk_at_not) = true := by decide +kernel
theorem gc_Walk_at_not : FnScope ["self", "term"] ["self", "term"] (defScope gs_Walk_at_not) := C8.fnScope_by (by decide +kernel)
theorem gen_Walk_at_not {K : PySem.W.Frag} (c : He.SaysD faT fnT K) : Ent (moT K) n_Walk_at_not d_Walk_at_not := by
  obtain ⟨fd, F⟩ := c.def_ 74 (d := ge_Walk_at_not) rfl
  have F' : FunD K ge_Walk_at_not.name ge_Walk_at_not.qual ge_Walk_at_not.params ge_Walk_at_not.body ge_Walk_at_not.scope [] (ge_Walk_at_not.kws K) ((moT K).fa n_Walk_at_not) fd := F
  exact ⟨_, _, _, _, _, _, _, _, _, fd, F', gc_Walk_at_not, rfl, rfl, gm_Walk_at_not, dfl0 (F'.bindsN (ps := ["self", "term"]) fun _ _ _ _ _ _ us hl => match us, hl with | [_, _], _ => rfl) rfl, kwd0 rfl⟩
theorem gm_Walk_at_if : mB meT true ["self", "term"] (defScope gs_Walk_at_if).names b_Walk_at_if (defBody gs_Walk_at_if) = true := by decide +kernel
theorem gc_Walk_at_if : FnScope ["self", "term"] ["self", "term"] (defScope gs_Walk_at_if) := C8.fnScope_by (by decide +kernel)
theorem gen_Walk_at_if {K : PySem.W.Frag} (c : He.SaysD faT fnT K) : Ent (moT K) n_Walk_at_if d_Walk_at_if := by
  obtain ⟨fd, F⟩ := c.def_ 75 (d := ge_Walk_at_if) rfl
  have F' : FunD K ge_Walk_at_if.name ge_Walk_at_if.qual ge_Walk_at_if.params ge_Walk_at_if.body ge_Walk_at_if.scope [] (ge_Walk_at_if.kws K) ((moT K).fa n_Walk_at_if) fd := F
  exact ⟨_, _, _, _, _, _, _, _, _, fd, F', gc_Walk_at_if, rfl, rfl, gm_Walk_at_if, dfl0 (F'.bindsN (ps := ["self", "term"]) fun _ _ _ _ _ _ us hl => match us, hl with | [_, _], _ => rfl) rfl, kwd0 rfl⟩
theorem gm_Walk_at_let : mB meT true ["self", "term"] (defScope gs_Walk_at_let).names b_Walk_at_let (defBody gs_Walk_at_let) = true := by decide +kernel
theorem gc_Walk_at_let : FnScope ["self", "term"] ["self", "term"] (defScope gs_Walk_at_let) := C8.fnScope_by (by decide +kernel)
theorem gen_Walk_at_let {K : PySem.W.Frag} (c : He.SaysD faT fnT K) : Ent (moT K) n_Walk_at_let d_Walk_at_let := by
  obtain ⟨fd, F⟩ := c.def_ 76 (d := ge_Walk_at_let) rfl
  have F' : FunD K ge_Walk_at_let.name ge_Walk_at_let.qual ge_Walk_at_let.params ge_Walk_at_let.body ge_Walk_at_let.scope [] (ge_Walk_at_let.kws K) ((moT K).fa n_Walk_at_let) fd := F
  exact ⟨_, _, _, _, _, _, _, _, _, fd, F', gc_Walk_at_let, rfl, rfl, gm_Walk_at_let, dfl0 (F'.bindsN (ps := ["self", "term"]) fun _ _ _ _ _ _ us hl => match us, hl with | [_, _], _ => rfl) rfl, kwd0 rfl⟩
theorem gm_Walk_enter : mB meT true ["self", "spot", "own", "values", "word", "param", "value"] (defScope gs_Walk_enter).names b_Walk_enter (defBody gs_Walk_enter) = true := by decide +kernel
theorem gc_Walk_enter : FnScope ["self", "spot", "own", "values", "word", "param", "value"] ["self", "spot", "own", "values"] (defScope gs_Walk_enter) := C8.fnScope_by (by decide +kernel)
theorem gen_Walk_enter {K : PySem.W.Frag} (c : He.SaysD faT fnT K) : Ent (moT K) n_Walk_enter d_Walk_enter := by
  obtain ⟨fd, F⟩ := c.def_ 77 (d := ge_Walk_enter) rfl
  have F' : FunD K ge_Walk_enter.name ge_Walk_enter.qual ge_Walk_enter.params ge_Walk_enter.body ge_Walk_enter.scope [] (ge_Walk_enter.kws K) ((moT K).fa n_Walk_enter) fd := F
  exact ⟨_, _, _, _, _, _, _, _, _, fd, F', gc_Walk_enter, rfl, rfl, gm_Walk_enter, dfl0 (F'.bindsN (ps := ["self", "spot", "own", "values"]) fun _ _ _ _ _ _ us hl => match us, hl with | [_, _, _, _], _ => rfl) rfl, kwd0 rfl⟩
theorem gm_Walk_goes : mB meT true ["self", "term"] (defScope gs_Walk_goes).names b_Walk_goes (defBody gs_Walk_goes) = true := by decide +kernel
theorem gc_Walk_goes : FnScope ["self", "term"] ["self"] (defScope gs_Walk_goes) := C8.fnScope_by (by decide +kernel)
theorem gen_Walk_goes {K : PySem.W.Frag} (c : He.SaysD faT fnT K) : Ent (moT K) n_Walk_goes d_Walk_goes := by
  obtain ⟨fd, F⟩ := c.def_ 78 (d := ge_Walk_goes) rfl
  have F' : FunD K ge_Walk_goes.name ge_Walk_goes.qual ge_Walk_goes.params ge_Walk_goes.body ge_Walk_goes.scope [] (ge_Walk_goes.kws K) ((moT K).fa n_Walk_goes) fd := F
  exact ⟨_, _, _, _, _, _, _, _, _, fd, F', gc_Walk_goes, rfl, rfl, gm_Walk_goes, dfl0 (F'.bindsN (ps := ["self"]) fun _ _ _ _ _ _ us hl => match us, hl with | [_], _ => rfl) rfl, kwd0 rfl⟩
theorem gm_Term___init__ : mB meT true ["self", "inner", "part"] (defScope gs_Term___init__).names b_Term___init__ (defBody gs_Term___init__) = true := by decide +kernel
theorem gc_Term___init__ : FnScope ["self", "inner", "part"] ["self", "inner"] (defScope gs_Term___init__) := C8.fnScope_by (by decide +kernel)
theorem gen_Term___init__ {K : PySem.W.Frag} (c : He.SaysD faT fnT K) : Ent (moT K) n_Term___init__ d_Term___init__ := by
  obtain ⟨fd, F⟩ := c.def_ 79 (d := ge_Term___init__) rfl
  have F' : FunD K ge_Term___init__.name ge_Term___init__.qual ge_Term___init__.params ge_Term___init__.body ge_Term___init__.scope [] (ge_Term___init__.kws K) ((moT K).fa n_Term___init__) fd := F
  exact ⟨_, _, _, _, _, _, _, _, _, fd, F', gc_Term___init__, rfl, rfl, gm_Term___init__, dfl0 (F'.bindsN (ps := ["self", "inner"]) fun _ _ _ _ _ _ us hl => match us, hl with | [_, _], _ => rfl) rfl, kwd0 rfl⟩
theorem gm_Term_meet : mB meT true ["self", "guest"] (defScope gs_Term_meet).names b_Term_meet (defBody gs_Term_meet) = true := by decide +kernel
theorem gc_Term_meet : FnScope ["self", "guest"] ["self", "guest"] (defScope gs_Term_meet) := C8.fnScope_by (by decide +kernel)
theorem gen_Term_meet {K : PySem.W.Frag} (c : He.SaysD faT fnT K) : Ent (moT K) n_Term_meet d_Term_meet := by
  obtain ⟨fd, F⟩ := c.def_ 80 (d := ge_Term_meet) rfl
  have F' : FunD K ge_Term_meet.name ge_Term_meet.qual ge_Term_meet.params ge_Term_meet.body ge_Term_meet.scope [] (ge_Term_meet.kws K) ((moT K).fa n_Term_meet) fd := F
  exact ⟨_, _, _, _, _, _, _, _, _, fd, F', gc_Term_meet, rfl, rfl, gm_Term_meet, dfl0 (F'.bindsN (ps := ["self", "guest"]) fun _ _ _ _ _ _ us hl => match us, hl with | [_, _], _ => rfl) rfl, kwd0 rfl⟩
theorem gm_Term_plain : mB meT true ["self"] (defScope gs_Term_plain).names b_Term_plain (defBody gs_Term_plain) = true := by decide +kernel
theorem gc_Term_plain : FnScope ["self"] ["self"] (defScope gs_Term_plain) := C8.fnScope_by (by decide +kernel)
theorem gen_Term_plain {K : PySem.W.Frag} (c : He.SaysD faT fnT K) : Ent (moT K) n_Term_plain d_Term_plain := by
  obtain ⟨fd, F⟩ := c.def_ 81 (d := ge_Term_plain) rfl
  have F' : FunD K ge_Term_plain.name ge_Term_plain.qual ge_Term_plain.params ge_Term_plain.body ge_Term_plain.scope [] (ge_Term_plain.kws K) ((moT K).fa n_Term_plain) fd := F
  exact ⟨_, _, _, _, _, _, _, _, _, fd, F', gc_Term_plain, rfl, rfl, gm_Term_plain, dfl0 (F'.bindsN (ps := ["self"]) fun _ _ _ _ _ _ us hl => match us, hl with | [_], _ => rfl) rfl, kwd0 rfl⟩
theorem gm_Term_parts : mB meT true ["self"] (defScope gs_Term_parts).names b_Term_parts (defBody gs_Term_parts) = true := by decide +kernel
theorem gc_Term_parts : FnScope ["self"] ["self"] (defScope gs_Term_parts) := C8.fnScope_by (by decide +kernel)
theorem gen_Term_parts {K : PySem.W.Frag} (c : He.SaysD faT fnT K) : Ent (moT K) n_Term_parts d_Term_parts := by
  obtain ⟨fd, F⟩ := c.def_ 82 (d := ge_Term_parts) rfl
  have F' : FunD K ge_Term_parts.name ge_Term_parts.qual ge_Term_parts.params ge_Term_parts.body ge_Term_parts.scope [] (ge_Term_parts.kws K) ((moT K).fa n_Term_parts) fd := F
  exact ⟨_, _, _, _, _, _, _, _, _, fd, F', gc_Term_parts, rfl, rfl, gm_Term_parts, dfl0 (F'.bindsN (ps := ["self"]) fun _ _ _ _ _ _ us hl => match us, hl with | [_], _ => rfl) rfl, kwd0 rfl⟩
theorem gm_Term_depth : mB meT true ["self"] (defScope gs_Term_depth).names b_Term_depth (defBody gs_Term_depth) = true := by decide +kernel
theorem gc_Term_depth : FnScope ["self"] ["self"] (defScope gs_Term_depth) := C8.fnScope_by (by decide +kernel)
theorem gen_Term_depth {K : PySem.W.Frag} (c : He.SaysD faT fnT K) : Ent (moT K) n_Term_depth d_Term_depth := by
  obtain ⟨fd, F⟩ := c.def_ 83 (d := ge_Term_depth) rfl
  have F' : FunD K ge_Term_depth.name ge_Term_depth.qual ge_Term_depth.params ge_Term_depth.body ge_Term_depth.scope [] (ge_Term_depth.kws K) ((moT K).fa n_Term_depth) fd := F
  exact ⟨_, _, _, _, _, _, _, _, _, fd, F', gc_Term_depth, rfl, rfl, gm_Term_depth, dfl0 (F'.bindsN (ps := ["self"]) fun _ _ _ _ _ _ us hl => match us, hl with | [_], _ => rfl) rfl, kwd0 rfl⟩
theorem gm_Term_size : mB meT true ["self"] (defScope gs_Term_size).names b_Term_size (defBody gs_Term_size) = true := by decide +kernel
theorem gc_Term_size : FnScope ["self"] ["self"] (defScope gs_Term_size) := C8.fnScope_by (by decide +kernel)
theorem gen_Term_size {K : PySem.W.Frag} (c : He.SaysD faT fnT K) : Ent (moT K) n_Term_size d_Term_size := by
  obtain ⟨fd, F⟩ := c.def_ 84 (d := ge_Term_size) rfl
  have F' : FunD K ge_Term_size.name ge_Term_size.qual ge_Term_size.params ge_Term_size.body ge_Term_size.scope [] (ge_Term_size.kws K) ((moT K).fa n_Term_size) fd := F
  exact ⟨_, _, _, _, _, _, _, _, _, fd, F', gc_Term_size, rfl, rfl, gm_Term_size, dfl0 (F'.bindsN (ps := ["self"]) fun _ _ _ _ _ _ us hl => match us, hl with | [_], _ => rfl) rfl, kwd0 rfl⟩
theorem gm_NumberTerm___init__ : mB meT true ["self", "number"] (defScope gs_NumberTerm___init__).names b_NumberTerm___init__ (defBody gs_NumberTerm___init__) = true := by decide +kernel
theorem gc_NumberTerm___init__ : FnScope ["self", "number"] ["self", "number"] (defScope gs_NumberTerm___init__) := C8.fnScope_by (by decide +kernel)
theorem gen_NumberTerm___init__ {K : PySem.W.Frag} (c : He.SaysD faT fnT K) : Ent (moT K) n_NumberTerm___init__ d_NumberTerm___init__ := by
  obtain ⟨fd, F⟩ := c.def_ 85 (d := ge_NumberTerm___init__) rfl
  have F' : FunD K ge_NumberTerm___init__.name ge_NumberTerm___init__.qual ge_NumberTerm___init__.params ge_NumberTerm___init__.body ge_NumberTerm___init__.scope [] (ge_NumberTerm___init__.kws K) ((moT K).fa n_NumberTerm___init__) fd := F
  exact ⟨_, _, _, _, _, _, _, _, _, fd, F', gc_NumberTerm___init__, rfl, rfl, gm_NumberTerm___init__, dfl0 (F'.bindsN (ps := ["self", "number"]) fun _ _ _ _ _ _ us hl => match us, hl with | [_, _], _ => rfl) rfl, kwd0 rfl⟩
theorem gm_NumberTerm_meet : mB meT true ["self", "guest"] (defScope gs_NumberTerm_meet).names b_NumberTerm_meet (defBody gs_NumberTerm_meet) = true := by decide +kernel
theorem gc_NumberTerm_meet : FnScope ["self", "guest"] ["self", "guest"] (defScope gs_NumberTerm_meet) := C8.fnScope_by (by decide +kernel)
theorem gen_NumberTerm_meet {K : PySem.W.Frag} (c : He.SaysD faT fnT K) : Ent (moT K) n_NumberTerm_meet d_NumberTerm_meet := by
  obtain ⟨fd, F⟩ := c.def_ 86 (d := ge_NumberTerm_meet) rfl
  have F' : FunD K ge_NumberTerm_meet.name ge_NumberTerm_meet.qual ge_NumberTerm_meet.params ge_NumberTerm_meet.body ge_NumberTerm_meet.scope [] (ge_NumberTerm_meet.kws K) ((moT K).fa n_NumberTerm_meet) fd := F
  exact ⟨_, _, _, _, _, _, _, _, _, fd, F', gc_NumberTerm_meet, rfl, rfl, gm_NumberTerm_meet, dfl0 (F'.bindsN (ps := ["self", "guest"]) fun _ _ _ _ _ _ us hl => match us, hl with | [_, _], _ => rfl) rfl, kwd0 rfl⟩
theorem gm_NumberTerm_plain : mB meT true ["self"] (defScope gs_NumberTerm_plain).names b_NumberTerm_plain (defBody gs_NumberTerm_plain) = true := by decide +kernel
theorem gc_NumberTerm_plain : FnScope ["self"] ["self"] (defScope gs_NumberTerm_plain) := C8.fnScope_by (by decide +kernel)
theorem gen_NumberTerm_plain {K : PySem.W.Frag} (c : He.SaysD faT fnT K) : Ent (moT K) n_NumberTerm_plain d_NumberTerm_plain := by
  obtain ⟨fd, F⟩ := c.def_ 87 (d := ge_NumberTerm_plain) rfl
  have F' : FunD K ge_NumberTerm_plain.name ge_NumberTerm_plain.qual ge_NumberTerm_plain.params ge_NumberTerm_plain.body ge_NumberTerm_plain.scope [] (ge_NumberTerm_plain.kws K) ((moT K).fa n_NumberTerm_plain) fd := F
  exact ⟨_, _, _, _, _, _, _, _, _, fd, F', gc_NumberTerm_plain, rfl, rfl, gm_NumberTerm_plain, dfl0 (F'.bindsN (ps := ["self"]) fun _ _ _ _ _ _ us hl => match us, hl with | [_], _ => rfl) rfl, kwd0 rfl⟩
theorem gm_TruthTerm___init__ : mB meT true ["self", "is_yes"] (defScope gs_TruthTerm___init__).names b_TruthTerm___init__ (defBody gs_TruthTerm___init__) = true := by decide +kernel
theorem gc_TruthTerm___init__ : FnScope ["self", "is_yes"] ["self", "is_yes"] (defScope gs_TruthTerm___init__) := C8.fnScope_by (by decide +kernel)
theorem gen_TruthTerm___init__ {K : PySem.W.Frag} (c : He.SaysD faT fnT K) : Ent (moT K) n_TruthTerm___init__ d_TruthTerm___init__ := by
  obtain ⟨fd, F⟩ := c.def_ 88 (d := ge_TruthTerm___init__) rfl
  have F' : FunD K ge_TruthTerm___init__.name ge_TruthTerm___init__.qual ge_TruthTerm___init__.params ge_TruthTerm___init__.body ge_TruthTerm___init__.scope [] (ge_TruthTerm___init__.kws K) ((moT K).fa n_TruthTerm___init__) fd := F
  exact ⟨_, _, _, _, _, _, _, _, _, fd, F', gc_TruthTerm___init__, rfl, rfl, gm_TruthTerm___init__, dfl0 (F'.bindsN (ps := ["self", "is_yes"]) fun _ _ _ _ _ _ us hl => match us, hl with | [_, _], _ => rfl) rfl, kwd0 rfl⟩
theorem gm_TruthTerm_meet : mB meT true ["self", "guest"] (defScope gs_TruthTerm_meet).names b_TruthTerm_meet (defBody gs_TruthTerm_meet) = true := by decide +kernel
theorem gc_TruthTerm_meet : FnScope ["self", "guest"] ["self", "guest"] (defScope gs_TruthTerm_meet) := C8.fnScope_by (by decide +kernel)
theorem gen_TruthTerm_meet {K : PySem.W.Frag} (c : He.SaysD faT fnT K) : Ent (moT K) n_TruthTerm_meet d_TruthTerm_meet := by
  obtain ⟨fd, F⟩ := c.def_ 89 (d := ge_TruthTerm_meet) rfl
  have F' : FunD K ge_TruthTerm_meet.name ge_TruthTerm_meet.qual ge_TruthTerm_meet.params ge_TruthTerm_meet.body ge_TruthTerm_meet.scope [] (ge_TruthTerm_meet.kws K) ((moT K).fa n_TruthTerm_meet) fd := F
  exact ⟨_, _, _, _, _, _, _, _, _, fd, F', gc_TruthTerm_meet, rfl, rfl, gm_TruthTerm_meet, dfl0 (F'.bindsN (ps := ["self", "guest"]) fun _ _ _ _ _ _ us hl => match us, hl with | [_, _], _ => rfl) rfl, kwd0 rfl⟩
theorem gm_TruthTerm_plain : mB meT true ["self"] (defScope gs_TruthTerm_plain).names b_TruthTerm_plain (defBody gs_TruthTerm_plain) = true := by decide +kernel
theorem gc_TruthTerm_plain : FnScope ["self"] ["self"] (defScope gs_TruthTerm_plain) := C8.fnScope_by (by decide +kernel)
theorem gen_TruthTerm_plain {K : PySem.W.Frag} (c : He.SaysD faT fnT K) : Ent (moT K) n_TruthTerm_plain d_TruthTerm_plain := by
  obtain ⟨fd, F⟩ := c.def_ 90 (d := ge_TruthTerm_plain) rfl
  have F' : FunD K ge_TruthTerm_plain.name ge_TruthTerm_plain.qual ge_TruthTerm_plain.params ge_TruthTerm_plain.body ge_TruthTerm_plain.scope [] (ge_TruthTerm_plain.kws K) ((moT K).fa n_TruthTerm_plain) fd := F
  exact ⟨_, _, _, _, _, _, _, _, _, fd, F', gc_TruthTerm_plain, rfl, rfl, gm_TruthTerm_plain, dfl0 (F'.bindsN (ps := ["self"]) fun _ _ _ _ _ _ us hl => match us, hl with | [_], _ => rfl) rfl, kwd0 rfl⟩
theorem gm_NameTerm___init__ : mB meT true ["self", "called"] (defScope gs_NameTerm___init__).names b_NameTerm___init__ (defBody gs_NameTerm___init__) = true := by decide +kernel
theorem gc_NameTerm___init__ : FnScope ["self", "called"] ["self", "called"] (defScope gs_NameTerm___init__) := C8.fnScope_by (by decide +kernel)
theorem gen_NameTerm___init__ {K : PySem.W.Frag} (c : He.SaysD faT fnT K) : Ent (moT K) n_NameTerm___init__ d_NameTerm___init__ := by
  obtain ⟨fd, F⟩ := c.def_ 91 (d := ge_NameTerm___init__) rfl
  have F' : FunD K ge_NameTerm___init__.name ge_NameTerm___init__.qual ge_NameTerm___init__.params ge_NameTerm___init__.body ge_NameTerm___init__.scope [] (ge_NameTerm___init__.kws K) ((moT K).fa n_NameTerm___init__) fd := F
  exact ⟨_, _, _, _, _, _, _, _, _, fd, F', gc_NameTerm___init__, rfl, rfl, gm_NameTerm___init__, dfl0 (F'.bindsN (ps := ["self", "called"]) fun _ _ _ _ _ _ us hl => match us, hl with | [_, _], _ => rfl) rfl, kwd0 rfl⟩
theorem gm_NameTerm_meet : mB meT true ["self", "guest"] (defScope gs_NameTerm_meet).names b_NameTerm_meet (defBody gs_NameTerm_meet) = true := by decide +kernel
theorem gc_NameTerm_meet : FnScope ["self", "guest"] ["self", "guest"] (defScope gs_NameTerm_meet) := C8.fnScope_by (by decide +kernel)
theorem gen_NameTerm_meet {K : PySem.W.Frag} (c : He.SaysD faT fnT K) : Ent (moT K) n_NameTerm_meet d_NameTerm_meet := by
  obtain ⟨fd, F⟩ := c.def_ 92 (d := ge_NameTerm_meet) rfl
  have F' : FunD K ge_NameTerm_meet.name ge_NameTerm_meet.qual ge_NameTerm_meet.params ge_NameTerm_meet.body ge_NameTerm_meet.scope [] (ge_NameTerm_meet.kws K) ((moT K).fa n_NameTerm_meet) fd := F
  exact ⟨_, _, _, _, _, _, _, _, _, fd, F', gc_NameTerm_meet, rfl, rfl, gm_NameTerm_meet, dfl0 (F'.bindsN (ps := ["self", "guest"]) fun _ _ _ _ _ _ us hl => match us, hl with | [_, _], _ => rfl) rfl, kwd0 rfl⟩
theorem gm_NameTerm_plain : mB meT true ["self"] (defScope gs_NameTerm_plain).names b_NameTerm_plain (defBody gs_NameTerm_plain) = true := by decide +kernel
theorem gc_NameTerm_plain : FnScope ["self"] ["self"] (defScope gs_NameTerm_plain) := C8.fnScope_by (by decide +kernel)
theorem gen_NameTerm_plain {K : PySem.W.Frag} (c : He.SaysD faT fnT K) : Ent (moT K) n_NameTerm_plain d_NameTerm_plain := by
  obtain ⟨fd, F⟩ := c.def_ 93 (d := ge_NameTerm_plain) rfl
  have F' : FunD K ge_NameTerm_plain.name ge_NameTerm_plain.qual ge_NameTerm_plain.params ge_NameTerm_plain.body ge_NameTerm_plain.scope [] (ge_NameTerm_plain.kws K) ((moT K).fa n_NameTerm_plain) fd := F
  exact ⟨_, _, _, _, _, _, _, _, _, fd, F', gc_NameTerm_plain, rfl, rfl, gm_NameTerm_plain, dfl0 (F'.bindsN (ps := ["self"]) fun _ _ _ _ _ _ us hl => match us, hl with | [_], _ => rfl) rfl, kwd0 rfl⟩
theorem gm_SelfTerm___init__ : mB meT true ["self"] (defScope gs_SelfTerm___init__).names b_SelfTerm___init__ (defBody gs_SelfTerm___init__) = true := by decide +kernel
theorem gc_SelfTerm___init__ : FnScope ["self"] ["self"] (defScope gs_SelfTerm___init__) := C8.fnScope_by (by decide +kernel)
theorem gen_SelfTerm___init__ {K : PySem.W.Frag} (c : He.SaysD faT fnT K) : Ent (moT K) n_SelfTerm___init__ d_SelfTerm___init__ := by
  obtain ⟨fd, F⟩ := c.def_ 94 (d := ge_SelfTerm___init__) rfl
  have F' : FunD K ge_SelfTerm___init__.name ge_SelfTerm___init__.qual ge_SelfTerm___init__.params ge_SelfTerm___init__.body ge_SelfTerm___init__.scope [] (ge_SelfTerm___init__.kws K) ((moT K).fa n_SelfTerm___init__) fd := F
  exact ⟨_, _, _, _, _, _, _, _, _, fd, F', gc_SelfTerm___init__, rfl, rfl, gm_SelfTerm___init__, dfl0 (F'.bindsN (ps := ["self"]) fun _ _ _ _ _ _ us hl => match us, hl with | [_], _ => rfl) rfl, kwd0 rfl⟩
theorem gm_SelfTerm_meet : mB meT true ["self", "guest"] (defScope gs_SelfTerm_meet).names b_SelfTerm_meet (defBody gs_SelfTerm_meet) = true := by decide +kernel
theorem gc_SelfTerm_meet : FnScope ["self", "guest"] ["self", "guest"] (defScope gs_SelfTerm_meet) := C8.fnScope_by (by decide +kernel)
theorem gen_SelfTerm_meet {K : PySem.W.Frag} (c : He.SaysD faT fnT K) : Ent (moT K) n_SelfTerm_meet d_SelfTerm_meet := by
  obtain ⟨fd, F⟩ := c.def_ 95 (d := ge_SelfTerm_meet) rfl
  have F' : FunD K ge_SelfTerm_meet.name ge_SelfTerm_meet.qual ge_SelfTerm_meet.params ge_SelfTerm_meet.body ge_SelfTerm_meet.scope [] (ge_SelfTerm_meet.kws K) ((moT K).fa n_SelfTerm_meet) fd := F
  exact ⟨_, _, _, _, _, _, _, _, _, fd, F', gc_SelfTerm_meet, rfl, rfl, gm_SelfTerm_meet, dfl0 (F'.bindsN (ps := ["self", "guest"]) fun _ _ _ _ _ _ us hl => match us, hl with | [_, _], _ => rfl) rfl, kwd0 rfl⟩
theorem gm_SelfTerm_plain : mB meT true ["self"] (defScope gs_SelfTerm_plain).names b_SelfTerm_plain (defBody gs_SelfTerm_plain) = true := by decide +kernel
theorem gc_SelfTerm_plain : FnScope ["self"] ["self"] (defScope gs_SelfTerm_plain) := C8.fnScope_by (by decide +kernel)
theorem gen_SelfTerm_plain {K : PySem.W.Frag} (c : He.SaysD faT fnT K) : Ent (moT K) n_SelfTerm_plain d_SelfTerm_plain := by
  obtain ⟨fd, F⟩ := c.def_ 96 (d := ge_SelfTerm_plain) rfl
  have F' : FunD K ge_SelfTerm_plain.name ge_SelfTerm_plain.qual ge_SelfTerm_plain.params ge_SelfTerm_plain.body ge_SelfTerm_plain.scope [] (ge_SelfTerm_plain.kws K) ((moT K).fa n_SelfTerm_plain) fd := F
  exact ⟨_, _, _, _, _, _, _, _, _, fd, F', gc_SelfTerm_plain, rfl, rfl, gm_SelfTerm_plain, dfl0 (F'.bindsN (ps := ["self"]) fun _ _ _ _ _ _ us hl => match us, hl with | [_], _ => rfl) rfl, kwd0 rfl⟩
theorem gm_NewTerm___init__ : mB meT true ["self", "called", "given"] (defScope gs_NewTerm___init__).names b_NewTerm___init__ (defBody gs_NewTerm___init__) = true := by decide +kernel
theorem gc_NewTerm___init__ : FnScope ["self", "called", "given"] ["self", "called", "given"] (defScope gs_NewTerm___init__) := C8.fnScope_by (by decide +kernel)
theorem gen_NewTerm___init__ {K : PySem.W.Frag} (c : He.SaysD faT fnT K) : Ent (moT K) n_NewTerm___init__ d_NewTerm___init__ := by
  obtain ⟨fd, F⟩ := c.def_ 97 (d := ge_NewTerm___init__) rfl
  have F' : FunD K ge_NewTerm___init__.name ge_NewTerm___init__.qual ge_NewTerm___init__.params ge_NewTerm___init__.body ge_NewTerm___init__.scope [] (ge_NewTerm___init__.kws K) ((moT K).fa n_NewTerm___init__) fd := F
  exact ⟨_, _, _, _, _, _, _, _, _, fd, F', gc_NewTerm___init__, rfl, rfl, gm_NewTerm___init__, dfl0 (F'.bindsN (ps := ["self", "called", "given"]) fun _ _ _ _ _ _ us hl => match us, hl with | [_, _, _], _ => rfl) rfl, kwd0 rfl⟩
theorem gm_NewTerm_meet : mB meT true ["self", "guest"] (defScope gs_NewTerm_meet).names b_NewTerm_meet (defBody gs_NewTerm_meet) = true := by decide +kernel
theorem gc_NewTerm_meet : FnScope ["self", "guest"] ["self", "guest"] (defScope gs_NewTerm_meet) := C8.fnScope_by (by decide +kernel)
theorem gen_NewTerm_meet {K : PySem.W.Frag} (c : He.SaysD faT fnT K) : Ent (moT K) n_NewTerm_meet d_NewTerm_meet := by
  obtain ⟨fd, F⟩ := c.def_ 98 (d := ge_NewTerm_meet) rfl
  have F' : FunD K ge_NewTerm_meet.name ge_NewTerm_meet.qual ge_NewTerm_meet.params ge_NewTerm_meet.body ge_NewTerm_meet.scope [] (ge_NewTerm_meet.kws K) ((moT K).fa n_NewTerm_meet) fd := F
  exact ⟨_, _, _, _, _, _, _, _, _, fd, F', gc_NewTerm_meet, rfl, rfl, gm_NewTerm_meet, dfl0 (F'.bindsN (ps := ["self", "guest"]) fun _ _ _ _ _ _ us hl => match us, hl with | [_, _], _ => rfl) rfl, kwd0 rfl⟩
theorem gm_NewTerm_plain : mB meT true ["self"] (defScope gs_NewTerm_plain).names b_NewTerm_plain (defBody gs_NewTerm_plain) = true := by decide +kernel
theorem gc_NewTerm_plain : FnScope ["self"] ["self"] (defScope gs_NewTerm_plain) := C8.fnScope_by (by decide +kernel)
theorem gen_NewTerm_plain {K : PySem.W.Frag} (c : He.SaysD faT fnT K) : Ent (moT K) n_NewTerm_plain d_NewTerm_plain := by
  obtain ⟨fd, F⟩ := c.def_ 99 (d := ge_NewTerm_plain) rfl
  have F' : FunD K ge_NewTerm_plain.name ge_NewTerm_plain.qual ge_NewTerm_plain.params ge_NewTerm_plain.body ge_NewTerm_plain.scope [] (ge_NewTerm_plain.kws K) ((moT K).fa n_NewTerm_plain) fd := F
  exact ⟨_, _, _, _, _, _, _, _, _, fd, F', gc_NewTerm_plain, rfl, rfl, gm_NewTerm_plain, dfl0 (F'.bindsN (ps := ["self"]) fun _ _ _ _ _ _ us hl => match us, hl with | [_], _ => rfl) rfl, kwd0 rfl⟩
theorem gm_ElderTerm___init__ : mB meT true ["self", "called", "given"] (defScope gs_ElderTerm___init__).names b_ElderTerm___init__ (defBody gs_ElderTerm___init__) = true := by decide +kernel
theorem gc_ElderTerm___init__ : FnScope ["self", "called", "given"] ["self", "called", "given"] (defScope gs_ElderTerm___init__) := C8.fnScope_by (by decide +kernel)
theorem gen_ElderTerm___init__ {K : PySem.W.Frag} (c : He.SaysD faT fnT K) : Ent (moT K) n_ElderTerm___init__ d_ElderTerm___init__ := by
  obtain ⟨fd, F⟩ := c.def_ 100 (d := ge_ElderTerm___init__) rfl
  have F' : FunD K ge_ElderTerm___init__.name ge_ElderTerm___init__.qual ge_ElderTerm___init__.params ge_ElderTerm___init__.body ge_ElderTerm___init__.scope [] (ge_ElderTerm___init__.kws K) ((moT K).fa n_ElderTerm___init__) fd := F
  exact ⟨_, _, _, _, _, _, _, _, _, fd, F', gc_ElderTerm___init__, rfl, rfl, gm_ElderTerm___init__, dfl0 (F'.bindsN (ps := ["self", "called", "given"]) fun _ _ _ _ _ _ us hl => match us, hl with | [_, _, _], _ => rfl) rfl, kwd0 rfl⟩
theorem gm_ElderTerm_meet : mB meT true ["self", "guest"] (defScope gs_ElderTerm_meet).names b_ElderTerm_meet (defBody gs_ElderTerm_meet) = true := by decide +kernel
theorem gc_ElderTerm_meet : FnScope ["self", "guest"] ["self", "guest"] (defScope gs_ElderTerm_meet) := C8.fnScope_by (by decide +kernel)
theorem gen_ElderTerm_meet {K : PySem.W.Frag} (c : He.SaysD faT fnT K) : Ent (moT K) n_ElderTerm_meet d_ElderTerm_meet := by
  obtain ⟨fd, F⟩ := c.def_ 101 (d := ge_ElderTerm_meet) rfl
  have F' : FunD K ge_ElderTerm_meet.name ge_ElderTerm_meet.qual ge_ElderTerm_meet.params ge_ElderTerm_meet.body ge_ElderTerm_meet.scope [] (ge_ElderTerm_meet.kws K) ((moT K).fa n_ElderTerm_meet) fd := F
  exact ⟨_, _, _, _, _, _, _, _, _, fd, F', gc_ElderTerm_meet, rfl, rfl, gm_ElderTerm_meet, dfl0 (F'.bindsN (ps := ["self", "guest"]) fun _ _ _ _ _ _ us hl => match us, hl with | [_, _], _ => rfl) rfl, kwd0 rfl⟩
theorem gm_ElderTerm_plain : mB meT true ["self"] (defScope gs_ElderTerm_plain).names b_ElderTerm_plain (defBody gs_ElderTerm_plain) = true := by decide +kernel
theorem gc_ElderTerm_plain : FnScope ["self"] ["self"] (defScope gs_ElderTerm_plain) := C8.fnScope_by (by decide +kernel)
theorem gen_ElderTerm_plain {K : PySem.W.Frag} (c : He.SaysD faT fnT K) : Ent (moT K) n_ElderTerm_plain d_ElderTerm_plain := by
  obtain ⟨fd, F⟩ := c.def_ 102 (d := ge_ElderTerm_plain) rfl
  have F' : FunD K ge_ElderTerm_plain.name ge_ElderTerm_plain.qual ge_ElderTerm_plain.params ge_ElderTerm_plain.body ge_ElderTerm_plain.scope [] (ge_ElderTerm_plain.kws K) ((moT K).fa n_ElderTerm_plain) fd := F
  exact ⟨_, _, _, _, _, _, _, _, _, fd, F', gc_ElderTerm_plain, rfl, rfl, gm_ElderTerm_plain, dfl0 (F'.bindsN (ps := ["self"]) fun _ _ _ _ _ _ us hl => match us, hl with | [_], _ => rfl) rfl, kwd0 rfl⟩
theorem gm_FieldTerm___init__ : mB meT true ["self", "thing", "called"] (defScope gs_FieldTerm___init__).names b_FieldTerm___init__ (defBody gs_FieldTerm___init__) = true := by decide +kernel
theorem gc_FieldTerm___init__ : FnScope ["self", "thing", "called"] ["self", "thing", "called"] (defScope gs_FieldTerm___init__) := C8.fnScope_by (by decide +kernel)
theorem gen_FieldTerm___init__ {K : PySem.W.Frag} (c : He.SaysD faT fnT K) : Ent (moT K) n_FieldTerm___init__ d_FieldTerm___init__ := by
  obtain ⟨fd, F⟩ := c.def_ 103 (d := ge_FieldTerm___init__) rfl
  have F' : FunD K ge_FieldTerm___init__.name ge_FieldTerm___init__.qual ge_FieldTerm___init__.params ge_FieldTerm___init__.body ge_FieldTerm___init__.scope [] (ge_FieldTerm___init__.kws K) ((moT K).fa n_FieldTerm___init__) fd := F
  exact ⟨_, _, _, _, _, _, _, _, _, fd, F', gc_FieldTerm___init__, rfl, rfl, gm_FieldTerm___init__, dfl0 (F'.bindsN (ps := ["self", "thing", "called"]) fun _ _ _ _ _ _ us hl => match us, hl with | [_, _, _], _ => rfl) rfl, kwd0 rfl⟩
theorem gm_FieldTerm_meet : mB meT true ["self", "guest"] (defScope gs_FieldTerm_meet).names b_FieldTerm_meet (defBody gs_FieldTerm_meet) = true := by decide +kernel
theorem gc_FieldTerm_meet : FnScope ["self", "guest"] ["self", "guest"] (defScope gs_FieldTerm_meet) := C8.fnScope_by (by decide +kernel)
theorem gen_FieldTerm_meet {K : PySem.W.Frag} (c : He.SaysD faT fnT K) : Ent (moT K) n_FieldTerm_meet d_FieldTerm_meet := by
  obtain ⟨fd, F⟩ := c.def_ 104 (d := ge_FieldTerm_meet) rfl
  have F' : FunD K ge_FieldTerm_meet.name ge_FieldTerm_meet.qual ge_FieldTerm_meet.params ge_FieldTerm_meet.body ge_FieldTerm_meet.scope [] (ge_FieldTerm_meet.kws K) ((moT K).fa n_FieldTerm_meet) fd := F
  exact ⟨_, _, _, _, _, _, _, _, _, fd, F', gc_FieldTerm_meet, rfl, rfl, gm_FieldTerm_meet, dfl0 (F'.bindsN (ps := ["self", "guest"]) fun _ _ _ _ _ _ us hl => match us, hl with | [_, _], _ => rfl) rfl, kwd0 rfl⟩
theorem gm_FieldTerm_plain : mB meT true ["self"] (defScope gs_FieldTerm_plain).names b_FieldTerm_plain (defBody gs_FieldTerm_plain) = true := by decide +kernel
theorem gc_FieldTerm_plain : FnScope ["self"] ["self"] (defScope gs_FieldTerm_plain) := C8.fnScope_by (by decide +kernel)
theorem gen_FieldTerm_plain {K : PySem.W.Frag} (c : He.SaysD faT fnT K) : Ent (moT K) n_FieldTerm_plain d_FieldTerm_plain := by
  obtain ⟨fd, F⟩ := c.def_ 105 (d := ge_FieldTerm_plain) rfl
  have F' : FunD K ge_FieldTerm_plain.name ge_FieldTerm_plain.qual ge_FieldTerm_plain.params ge_FieldTerm_plain.body ge_FieldTerm_plain.scope [] (ge_FieldTerm_plain.kws K) ((moT K).fa n_FieldTerm_plain) fd := F
  exact ⟨_, _, _, _, _, _, _, _, _, fd, F', gc_FieldTerm_plain, rfl, rfl, gm_FieldTerm_plain, dfl0 (F'.bindsN (ps := ["self"]) fun _ _ _ _ _ _ us hl => match us, hl with | [_], _ => rfl) rfl, kwd0 rfl⟩
theorem gm_CallTerm___init__ : mB meT true ["self", "thing", "called", "given"] (defScope gs_CallTerm___init__).names b_CallTerm___init__ (defBody gs_CallTerm___init__) = true := by decide +kernel
theorem gc_CallTerm___init__ : FnScope ["self", "thing", "called", "given"] ["self", "thing", "called", "given"] (defScope gs_CallTerm___init__) := C8.fnScope_by (by decide +kernel)
theorem gen_CallTerm___init__ {K : PySem.W.Frag} (c : He.SaysD faT fnT K) : Ent (moT K) n_CallTerm___init__ d_CallTerm___init__ := by
  obtain ⟨fd, F⟩ := c.def_ 106 (d := ge_CallTerm___init__) rfl
  have F' : FunD K ge_CallTerm___init__.name ge_CallTerm___init__.qual ge_CallTerm___init__.params ge_CallTerm___init__.body ge_CallTerm___init__.scope [] (ge_CallTerm___init__.kws K) ((moT K).fa n_CallTerm___init__) fd := F
  exact ⟨_, _, _, _, _, _, _, _, _, fd, F', gc_CallTerm___init__, rfl, rfl, gm_CallTerm___init__, dfl0 (F'.bindsN (ps := ["self", "thing", "called", "given"]) fun _ _ _ _ _ _ us hl => match us, hl with | [_, _, _, _], _ => rfl) rfl, kwd0 rfl⟩
theorem gm_CallTerm_meet : mB meT true ["self", "guest"] (defScope gs_CallTerm_meet).names b_CallTerm_meet (defBody gs_CallTerm_meet) = true := by decide +kernel
theorem gc_CallTerm_meet : FnScope ["self", "guest"] ["self", "guest"] (defScope gs_CallTerm_meet) := C8.fnScope_by (by decide +kernel)
theorem gen_CallTerm_meet {K : PySem.W.Frag} (c : He.SaysD faT fnT K) : Ent (moT K) n_CallTerm_meet d_CallTerm_meet := by
  obtain ⟨fd, F⟩ := c.def_ 107 (d := ge_CallTerm_meet) rfl
  have F' : FunD K ge_CallTerm_meet.name ge_CallTerm_meet.qual ge_CallTerm_meet.params ge_CallTerm_meet.body ge_CallTerm_meet.scope [] (ge_CallTerm_meet.kws K) ((moT K).fa n_CallTerm_meet) fd := F
  exact ⟨_, _, _, _, _, _, _, _, _, fd, F', gc_CallTerm_meet, rfl, rfl, gm_CallTerm_meet, dfl0 (F'.bindsN (ps := ["self", "guest"]) fun _ _ _ _ _ _ us hl => match us, hl with | [_, _], _ => rfl) rfl, kwd0 rfl⟩
theorem gm_CallTerm_plain : mB meT true ["self"] (defScope gs_CallTerm_plain).names b_CallTerm_plain (defBody gs_CallTerm_plain) = true := by decide +kernel
theorem gc_CallTerm_plain : FnScope ["self"] ["self"] (defScope gs_CallTerm_plain) := C8.fnScope_by (by decide +kernel)
theorem gen_CallTerm_plain {K : PySem.W.Frag} (c : He.SaysD faT fnT K) : Ent (moT K) n_CallTerm_plain d_CallTerm_plain := by
  obtain ⟨fd, F⟩ := c.def_ 108 (d := ge_CallTerm_plain) rfl
  have F' : FunD K ge_CallTerm_plain.name ge_CallTerm_plain.qual ge_CallTerm_plain.params ge_CallTerm_plain.body ge_CallTerm_plain.scope [] (ge_CallTerm_plain.kws K) ((moT K).fa n_CallTerm_plain) fd := F
  exact ⟨_, _, _, _, _, _, _, _, _, fd, F', gc_CallTerm_plain, rfl, rfl, gm_CallTerm_plain, dfl0 (F'.bindsN (ps := ["self"]) fun _ _ _ _ _ _ us hl => match us, hl with | [_], _ => rfl) rfl, kwd0 rfl⟩
theorem gm_NotTerm___init__ : mB meT true ["self", "one"] (defScope gs_NotTerm___init__).names b_NotTerm___init__ (defBody gs_NotTerm___init__) = true := by decide +kernel
theorem gc_NotTerm___init__ : FnScope ["self", "one"] ["self", "one"] (defScope gs_NotTerm___init__) := C8.fnScope_by (by decide +kernel)
theorem gen_NotTerm___init__ {K : PySem.W.Frag} (c : He.SaysD faT fnT K) : Ent (moT K) n_NotTerm___init__ d_NotTerm___init__ := by
  obtain ⟨fd, F⟩ := c.def_ 109 (d := ge_NotTerm___init__) rfl
  have F' : FunD K ge_NotTerm___init__.name ge_NotTerm___init__.qual ge_NotTerm___init__.params ge_NotTerm___init__.body ge_NotTerm___init__.scope [] (ge_NotTerm___init__.kws K) ((moT K).fa n_NotTerm___init__) fd := F
  exact ⟨_, _, _, _, _, _, _, _, _, fd, F', gc_NotTerm___init__, rfl, rfl, gm_NotTerm___init__, dfl0 (F'.bindsN (ps := ["self", "one"]) fun _ _ _ _ _ _ us hl => match us, hl with | [_, _], _ => rfl) rfl, kwd0 rfl⟩
theorem gm_NotTerm_meet : mB meT true ["self", "guest"] (defScope gs_NotTerm_meet).names b_NotTerm_meet (defBody gs_NotTerm_meet) = true := by decide +kernel
theorem gc_NotTerm_meet : FnScope ["self", "guest"] ["self", "guest"] (defScope gs_NotTerm_meet) := C8.fnScope_by (by decide +kernel)
theorem gen_NotTerm_meet {K : PySem.W.Frag} (c : He.SaysD faT fnT K) : Ent (moT K) n_NotTerm_meet d_NotTerm_meet := by
  obtain ⟨fd, F⟩ := c.def_ 110 (d := ge_NotTerm_meet) rfl
  have F' : FunD K ge_NotTerm_meet.name ge_NotTerm_meet.qual ge_NotTerm_meet.params ge_NotTerm_meet.body ge_NotTerm_meet.scope [] (ge_NotTerm_meet.kws K) ((moT K).fa n_NotTerm_meet) fd := F
  exact ⟨_, _, _, _, _, _, _, _, _, fd, F', gc_NotTerm_meet, rfl, rfl, gm_NotTerm_meet, dfl0 (F'.bindsN (ps := ["self", "guest"]) fun _ _ _ _ _ _ us hl => match us, hl with | [_, _], _ => rfl) rfl, kwd0 rfl⟩
theorem gm_NotTerm_plain : mB meT true ["self"] (defScope gs_NotTerm_plain).names b_NotTerm_plain (defBody gs_NotTerm_plain) = true := by decide +kernel
theorem gc_NotTerm_plain : FnScope ["self"] ["self"] (defScope gs_NotTerm_plain) := C8.fnScope_by (by decide +kernel)
theorem gen_NotTerm_plain {K : PySem.W.Frag} (c : He.SaysD faT fnT K) : Ent (moT K) n_NotTerm_plain d_NotTerm_plain := by
  obtain ⟨fd, F⟩ := c.def_ 111 (d := ge_NotTerm_plain) rfl
  have F' : FunD K ge_NotTerm_plain.name ge_NotTerm_plain.qual ge_NotTerm_plain.params ge_NotTerm_plain.body ge_NotTerm_plain.scope [] (ge_NotTerm_plain.kws K) ((moT K).fa n_NotTerm_plain) fd := F
  exact ⟨_, _, _, _, _, _, _, _, _, fd, F', gc_NotTerm_plain, rfl, rfl, gm_NotTerm_plain, dfl0 (F'.bindsN (ps := ["self"]) fun _ _ _ _ _ _ us hl => match us, hl with | [_], _ => rfl) rfl, kwd0 rfl⟩
theorem gm_TwoTerm___init__ : mB meT true ["self", "sign", "one", "other"] (defScope gs_TwoTerm___init__).names b_TwoTerm___init__ (defBody gs_TwoTerm___init__) = true := by decide +kernel
theorem gc_TwoTerm___init__ : FnScope ["self", "sign", "one", "other"] ["self", "sign", "one", "other"] (defScope gs_TwoTerm___init__) := C8.fnScope_by (by decide +kernel)
theorem gen_TwoTerm___init__ {K : PySem.W.Frag} (c : He.SaysD faT fnT K) : Ent (moT K) n_TwoTerm___init__ d_TwoTerm___init__ := by
  obtain ⟨fd, F⟩ := c.def_ 112 (d := ge_TwoTerm___init__) rfl
  have F' : FunD K ge_TwoTerm___init__.name ge_TwoTerm___init__.qual ge_TwoTerm___init__.params ge_TwoTerm___init__.body ge_TwoTerm___init__.scope [] (ge_TwoTerm___init__.kws K) ((moT K).fa n_TwoTerm___init__) fd := F
  exact ⟨_, _, _, _, _, _, _, _, _, fd, F', gc_TwoTerm___init__, rfl, rfl, gm_TwoTerm___init__, dfl0 (F'.bindsN (ps := ["self", "sign", "one", "other"]) fun _ _ _ _ _ _ us hl => match us, hl with | [_, _, _, _], _ => rfl) rfl, kwd0 rfl⟩
theorem gm_TwoTerm_meet : mB meT true ["self", "guest"] (defScope gs_TwoTerm_meet).names b_TwoTerm_meet (defBody gs_TwoTerm_meet) = true := by decide +kernel
theorem gc_TwoTerm_meet : FnScope ["self", "guest"] ["self", "guest"] (defScope gs_TwoTerm_meet) := C8.fnScope_by (by decide +kernel)
theorem gen_TwoTerm_meet {K : PySem.W.Frag} (c : He.SaysD faT fnT K) : Ent (moT K) n_TwoTerm_meet d_TwoTerm_meet := by
  obtain ⟨fd, F⟩ := c.def_ 113 (d := ge_TwoTerm_meet) rfl
  have F' : FunD K ge_TwoTerm_meet.name ge_TwoTerm_meet.qual ge_TwoTerm_meet.params ge_TwoTerm_meet.body ge_TwoTerm_meet.scope [] (ge_TwoTerm_meet.kws K) ((moT K).fa n_TwoTerm_meet) fd := F
  exact ⟨_, _, _, _, _, _, _, _, _, fd, F', gc_TwoTerm_meet, rfl, rfl, gm_TwoTerm_meet, dfl0 (F'.bindsN (ps := ["self", "guest"]) fun _ _ _ _ _ _ us hl => match us, hl with | [_, _], _ => rfl) rfl, kwd0 rfl⟩
theorem gm_TwoTerm_plain : mB meT true ["self"] (defScope gs_TwoTerm_plain).names b_TwoTerm_plain (defBody gs_TwoTerm_plain) = true := by decide +kernel
theorem gc_TwoTerm_plain : FnScope ["self"] ["self"] (defScope gs_TwoTerm_plain) := C8.fnScope_by (by decide +kernel)
theorem gen_TwoTerm_plain {K : PySem.W.Frag} (c : He.SaysD faT fnT K) : Ent (moT K) n_TwoTerm_plain d_TwoTerm_plain := by
  obtain ⟨fd, F⟩ := c.def_ 114 (d := ge_TwoTerm_plain) rfl
  have F' : FunD K ge_TwoTerm_plain.name ge_TwoTerm_plain.qual ge_TwoTerm_plain.params ge_TwoTerm_plain.body ge_TwoTerm_plain.scope [] (ge_TwoTerm_plain.kws K) ((moT K).fa n_TwoTerm_plain) fd := F
  exact ⟨_, _, _, _, _, _, _, _, _, fd, F', gc_TwoTerm_plain, rfl, rfl, gm_TwoTerm_plain, dfl0 (F'.bindsN (ps := ["self"]) fun _ _ _ _ _ _ us hl => match us, hl with | [_], _ => rfl) rfl, kwd0 rfl⟩
theorem gm_IfTerm___init__ : mB meT true ["self", "one", "other", "third"] (defScope gs_IfTerm___init__).names b_IfTerm___init__ (defBody gs_IfTerm___init__) = true := by decide +kernel
theorem gc_IfTerm___init__ : FnScope ["self", "one", "other", "third"] ["self", "one", "other", "third"] (defScope gs_IfTerm___init__) := C8.fnScope_by (by decide +kernel)
theorem gen_IfTerm___init__ {K : PySem.W.Frag} (c : He.SaysD faT fnT K) : Ent (moT K) n_IfTerm___init__ d_IfTerm___init__ := by
  obtain ⟨fd, F⟩ := c.def_ 115 (d := ge_IfTerm___init__) rfl
  have F' : FunD K ge_IfTerm___init__.name ge_IfTerm___init__.qual ge_IfTerm___init__.params ge_IfTerm___init__.body ge_IfTerm___init__.scope [] (ge_IfTerm___init__.kws K) ((moT K).fa n_IfTerm___init__) fd := F
  exact ⟨_, _, _, _, _, _, _, _, _, fd, F', gc_IfTerm___init__, rfl, rfl, gm_IfTerm___init__, dfl0 (F'.bindsN (ps := ["self", "one", "other", "third"]) fun _ _ _ _ _ _ us hl => match us, hl with | [_, _, _, _], _ => rfl) rfl, kwd0 rfl⟩
theorem gm_IfTerm_meet : mB meT true ["self", "guest"] (defScope gs_IfTerm_meet).names b_IfTerm_meet (defBody gs_IfTerm_meet) = true := by decide +kernel
theorem gc_IfTerm_meet : FnScope ["self", "guest"] ["self", "guest"] (defScope gs_IfTerm_meet) := C8.fnScope_by (by decide +kernel)
theorem gen_IfTerm_meet {K : PySem.W.Frag} (c : He.SaysD faT fnT K) : Ent (moT K) n_IfTerm_meet d_IfTerm_meet := by
  obtain ⟨fd, F⟩ := c.def_ 116 (d := ge_IfTerm_meet) rfl
  have F' : FunD K ge_IfTerm_meet.name ge_IfTerm_meet.qual ge_IfTerm_meet.params ge_IfTerm_meet.body ge_IfTerm_meet.scope [] (ge_IfTerm_meet.kws K) ((moT K).fa n_IfTerm_meet) fd := F
  exact ⟨_, _, _, _, _, _, _, _, _, fd, F', gc_IfTerm_meet, rfl, rfl, gm_IfTerm_meet, dfl0 (F'.bindsN (ps := ["self", "guest"]) fun _ _ _ _ _ _ us hl => match us, hl with | [_, _], _ => rfl) rfl, kwd0 rfl⟩
theorem gm_IfTerm_plain : mB meT true ["self"] (defScope gs_IfTerm_plain).names b_IfTerm_plain (defBody gs_IfTerm_plain) = true := by decide +kernel
theorem gc_IfTerm_plain : FnScope ["self"] ["self"] (defScope gs_IfTerm_plain) := C8.fnScope_by (by decide +kernel)
theorem gen_IfTerm_plain {K : PySem.W.Frag} (c : He.SaysD faT fnT K) : Ent (moT K) n_IfTerm_plain d_IfTerm_plain := by
  obtain ⟨fd, F⟩ := c.def_ 117 (d := ge_IfTerm_plain) rfl
  have F' : FunD K ge_IfTerm_plain.name ge_IfTerm_plain.qual ge_IfTerm_plain.params ge_IfTerm_plain.body ge_IfTerm_plain.scope [] (ge_IfTerm_plain.kws K) ((moT K).fa n_IfTerm_plain) fd := F
  exact ⟨_, _, _, _, _, _, _, _, _, fd, F', gc_IfTerm_plain, rfl, rfl, gm_IfTerm_plain, dfl0 (F'.bindsN (ps := ["self"]) fun _ _ _ _ _ _ us hl => match us, hl with | [_], _ => rfl) rfl, kwd0 rfl⟩
theorem gm_LetTerm___init__ : mB meT true ["self", "called", "one", "other"] (defScope gs_LetTerm___init__).names b_LetTerm___init__ (defBody gs_LetTerm___init__) = true := by decide +kernel
theorem gc_LetTerm___init__ : FnScope ["self", "called", "one", "other"] ["self", "called", "one", "other"] (defScope gs_LetTerm___init__) := C8.fnScope_by (by decide +kernel)
theorem gen_LetTerm___init__ {K : PySem.W.Frag} (c : He.SaysD faT fnT K) : Ent (moT K) n_LetTerm___init__ d_LetTerm___init__ := by
  obtain ⟨fd, F⟩ := c.def_ 118 (d := ge_LetTerm___init__) rfl
  have F' : FunD K ge_LetTerm___init__.name ge_LetTerm___init__.qual ge_LetTerm___init__.params ge_LetTerm___init__.body ge_LetTerm___init__.scope [] (ge_LetTerm___init__.kws K) ((moT K).fa n_LetTerm___init__) fd := F
  exact ⟨_, _, _, _, _, _, _, _, _, fd, F', gc_LetTerm___init__, rfl, rfl, gm_LetTerm___init__, dfl0 (F'.bindsN (ps := ["self", "called", "one", "other"]) fun _ _ _ _ _ _ us hl => match us, hl with | [_, _, _, _], _ => rfl) rfl, kwd0 rfl⟩
theorem gm_LetTerm_meet : mB meT true ["self", "guest"] (defScope gs_LetTerm_meet).names b_LetTerm_meet (defBody gs_LetTerm_meet) = true := by decide +kernel
theorem gc_LetTerm_meet : FnScope ["self", "guest"] ["self", "guest"] (defScope gs_LetTerm_meet) := C8.fnScope_by (by decide +kernel)
theorem gen_LetTerm_meet {K : PySem.W.Frag} (c : He.SaysD faT fnT K) : Ent (moT K) n_LetTerm_meet d_LetTerm_meet := by
  obtain ⟨fd, F⟩ := c.def_ 119 (d := ge_LetTerm_meet) rfl
  have F' : FunD K ge_LetTerm_meet.name ge_LetTerm_meet.qual ge_LetTerm_meet.params ge_LetTerm_meet.body ge_LetTerm_meet.scope [] (ge_LetTerm_meet.kws K) ((moT K).fa n_LetTerm_meet) fd := F
  exact ⟨_, _, _, _, _, _, _, _, _, fd, F', gc_LetTerm_meet, rfl, rfl, gm_LetTerm_meet, dfl0 (F'.bindsN (ps := ["self", "guest"]) fun _ _ _ _ _ _ us hl => match us, hl with | [_, _], _ => rfl) rfl, kwd0 rfl⟩
theorem gm_LetTerm_plain : mB meT true ["self"] (defScope gs_LetTerm_plain).names b_LetTerm_plain (defBody gs_LetTerm_plain) = true := by decide +kernel
theorem gc_LetTerm_plain : FnScope ["self"] ["self"] (defScope gs_LetTerm_plain) := C8.fnScope_by (by decide +kernel)
theorem gen_LetTerm_plain {K : PySem.W.Frag} (c : He.SaysD faT fnT K) : Ent (moT K) n_LetTerm_plain d_LetTerm_plain := by
  obtain ⟨fd, F⟩ := c.def_ 120 (d := ge_LetTerm_plain) rfl
  have F' : FunD K ge_LetTerm_plain.name ge_LetTerm_plain.qual ge_LetTerm_plain.params ge_LetTerm_plain.body ge_LetTerm_plain.scope [] (ge_LetTerm_plain.kws K) ((moT K).fa n_LetTerm_plain) fd := F
  exact ⟨_, _, _, _, _, _, _, _, _, fd, F', gc_LetTerm_plain, rfl, rfl, gm_LetTerm_plain, dfl0 (F'.bindsN (ps := ["self"]) fun _ _ _ _ _ _ us hl => match us, hl with | [_], _ => rfl) rfl, kwd0 rfl⟩
theorem gm_SetTerm___init__ : mB meT true ["self", "thing", "called", "other"] (defScope gs_SetTerm___init__).names b_SetTerm___init__ (defBody gs_SetTerm___init__) = true := by decide +kernel
theorem gc_SetTerm___init__ : FnScope ["self", "thing", "called", "other"] ["self", "thing", "called", "other"] (defScope gs_SetTerm___init__) := C8.fnScope_by (by decide +kernel)
theorem gen_SetTerm___init__ {K : PySem.W.Frag} (c : He.SaysD faT fnT K) : Ent (moT K) n_SetTerm___init__ d_SetTerm___init__ := by
  obtain ⟨fd, F⟩ := c.def_ 121 (d := ge_SetTerm___init__) rfl
  have F' : FunD K ge_SetTerm___init__.name ge_SetTerm___init__.qual ge_SetTerm___init__.params ge_SetTerm___init__.body ge_SetTerm___init__.scope [] (ge_SetTerm___init__.kws K) ((moT K).fa n_SetTerm___init__) fd := F
  exact ⟨_, _, _, _, _, _, _, _, _, fd, F', gc_SetTerm___init__, rfl, rfl, gm_SetTerm___init__, dfl0 (F'.bindsN (ps := ["self", "thing", "called", "other"]) fun _ _ _ _ _ _ us hl => match us, hl with | [_, _, _, _], _ => rfl) rfl, kwd0 rfl⟩
theorem gm_SetTerm_meet : mB meT true ["self", "guest"] (defScope gs_SetTerm_meet).names b_SetTerm_meet (defBody gs_SetTerm_meet) = true := by decide +kernel
theorem gc_SetTerm_meet : FnScope ["self", "guest"] ["self", "guest"] (defScope gs_SetTerm_meet) := C8.fnScope_by (by decide +kernel)
theorem gen_SetTerm_meet {K : PySem.W.Frag} (c : He.SaysD faT fnT K) : Ent (moT K) n_SetTerm_meet d_SetTerm_meet := by
  obtain ⟨fd, F⟩ := c.def_ 122 (d := ge_SetTerm_meet) rfl
  have F' : FunD K ge_SetTerm_meet.name ge_SetTerm_meet.qual ge_SetTerm_meet.params ge_SetTerm_meet.body ge_SetTerm_meet.scope [] (ge_SetTerm_meet.kws K) ((moT K).fa n_SetTerm_meet) fd := F
  exact ⟨_, _, _, _, _, _, _, _, _, fd, F', gc_SetTerm_meet, rfl, rfl, gm_SetTerm_meet, dfl0 (F'.bindsN (ps := ["self", "guest"]) fun _ _ _ _ _ _ us hl => match us, hl with | [_, _], _ => rfl) rfl, kwd0 rfl⟩
theorem gm_SetTerm_plain : mB meT true ["self"] (defScope gs_SetTerm_plain).names b_SetTerm_plain (defBody gs_SetTerm_plain) = true := by decide +kernel
theorem gc_SetTerm_plain : FnScope ["self"] ["self"] (defScope gs_SetTerm_plain) := C8.fnScope_by (by decide +kernel)
theorem gen_SetTerm_plain {K : PySem.W.Frag} (c : He.SaysD faT fnT K) : Ent (moT K) n_SetTerm_plain d_SetTerm_plain := by
  obtain ⟨fd, F⟩ := c.def_ 123 (d := ge_SetTerm_plain) rfl
  have F' : FunD K ge_SetTerm_plain.name ge_SetTerm_plain.qual ge_SetTerm_plain.params ge_SetTerm_plain.body ge_SetTerm_plain.scope [] (ge_SetTerm_plain.kws K) ((moT K).fa n_SetTerm_plain) fd := F
  exact ⟨_, _, _, _, _, _, _, _, _, fd, F', gc_SetTerm_plain, rfl, rfl, gm_SetTerm_plain, dfl0 (F'.bindsN (ps := ["self"]) fun _ _ _ _ _ _ us hl => match us, hl with | [_], _ => rfl) rfl, kwd0 rfl⟩
theorem gm_Program___init__ : mB meT true ["self", "houses_told", "main_told"] (defScope gs_Program___init__).names b_Program___init__ (defBody gs_Program___init__) = true := by decide +kernel
theorem gc_Program___init__ : FnScope ["self", "houses_told", "main_told"] ["self", "houses_told", "main_told"] (defScope gs_Program___init__) := C8.fnScope_by (by decide +kernel)
theorem gen_Program___init__ {K : PySem.W.Frag} (c : He.SaysD faT fnT K) : Ent (moT K) n_Program___init__ d_Program___init__ := by
  obtain ⟨fd, F⟩ := c.def_ 124 (d := ge_Program___init__) rfl
  have F' : FunD K ge_Program___init__.name ge_Program___init__.qual ge_Program___init__.params ge_Program___init__.body ge_Program___init__.scope [] (ge_Program___init__.kws K) ((moT K).fa n_Program___init__) fd := F
  exact ⟨_, _, _, _, _, _, _, _, _, fd, F', gc_Program___init__, rfl, rfl, gm_Program___init__, dfl0 (F'.bindsN (ps := ["self", "houses_told", "main_told"]) fun _ _ _ _ _ _ us hl => match us, hl with | [_, _, _], _ => rfl) rfl, kwd0 rfl⟩
theorem gm_Program_bodies : mB meT true ["self"] (defScope gs_Program_bodies).names b_Program_bodies (defBody gs_Program_bodies) = true := by decide +kernel
theorem gc_Program_bodies : FnScope ["self"] ["self"] (defScope gs_Program_bodies) := C8.fnScope_by (by decide +kernel)
theorem gen_Program_bodies {K : PySem.W.Frag} (c : He.SaysD faT fnT K) : Ent (moT K) n_Program_bodies d_Program_bodies := by
  obtain ⟨fd, F⟩ := c.def_ 125 (d := ge_Program_bodies) rfl
  have F' : FunD K ge_Program_bodies.name ge_Program_bodies.qual ge_Program_bodies.params ge_Program_bodies.body ge_Program_bodies.scope [] (ge_Program_bodies.kws K) ((moT K).fa n_Program_bodies) fd := F
  exact ⟨_, _, _, _, _, _, _, _, _, fd, F', gc_Program_bodies, rfl, rfl, gm_Program_bodies, dfl0 (F'.bindsN (ps := ["self"]) fun _ _ _ _ _ _ us hl => match us, hl with | [_], _ => rfl) rfl, kwd0 rfl⟩
theorem gm_Program_plain : mB meT true ["self", "houses", "name", "elder", "fields", "told", "rows", "params", "kind", "term", "word"] (defScope gs_Program_plain).names b_Program_plain (defBody gs_Program_plain) = true := by decide +kernel
theorem gc_Program_plain : FnScope ["self", "houses", "name", "elder", "fields", "told", "rows", "params", "kind", "term", "word"] ["self"] (defScope gs_Program_plain) := C8.fnScope_by (by decide +kernel)
theorem gen_Program_plain {K : PySem.W.Frag} (c : He.SaysD faT fnT K) : Ent (moT K) n_Program_plain d_Program_plain := by
  obtain ⟨fd, F⟩ := c.def_ 126 (d := ge_Program_plain) rfl
  have F' : FunD K ge_Program_plain.name ge_Program_plain.qual ge_Program_plain.params ge_Program_plain.body ge_Program_plain.scope [] (ge_Program_plain.kws K) ((moT K).fa n_Program_plain) fd := F
  exact ⟨_, _, _, _, _, _, _, _, _, fd, F', gc_Program_plain, rfl, rfl, gm_Program_plain, dfl0 (F'.bindsN (ps := ["self"]) fun _ _ _ _ _ _ us hl => match us, hl with | [_], _ => rfl) rfl, kwd0 rfl⟩
theorem hallT {K : PySem.W.Frag} (c : He.SaysD faT fnT K) : ∀ f d, sgT.fn f = some d → Ent (moT K) f d := fun f d h => getF_all (P := fun f d => Ent (moT K) f d) (l := fdsT) ⟨gen__wall c, gen_within c, gen_two_told c, gen_walked c, gen_plains c, gen_leaf_of c, gen_thing_term_of c, gen_term_of c, gen_program_of c, gen__law_cell_at c, gen__law_mixed c, gen__law_tree c, gen__law_told c, gen__law_houses c, gen__law_asked c, gen_law c, gen_Guest_at_number c, gen_Guest_at_truth c, gen_Guest_at_name c, gen_Guest_at_self c, gen_Guest_at_new c, gen_Guest_at_elder c, gen_Guest_at_field c, gen_Guest_at_call c, gen_Guest_at_not c, gen_Guest_at_two c, gen_Guest_at_if c, gen_Guest_at_let c, gen_Guest_at_set c, gen_Hall___init__ c, gen_Hall_houses c, gen_Hall_elders c, gen_Hall_younger c, gen_Hall_fields c, gen_Hall_place c, gen_Hall_found c, gen_Hall_head c, gen_Wait_goes_on c, gen_GatherWait___init__ c, gen_GatherWait_begins c, gen_GatherWait_goes_on c, gen_GatherWait_gathered c, gen_NewWait___init__ c, gen_NewWait_gathered c, gen_CallWait___init__ c, gen_CallWait_gathered c, gen_ElderWait___init__ c, gen_ElderWait_gathered c, gen_TwoWait___init__ c, gen_TwoWait_gathered c, gen_SetWait___init__ c, gen_SetWait_gathered c, gen_FieldWait___init__ c, gen_FieldWait_goes_on c, gen_NotWait_goes_on c, gen_IfWait___init__ c, gen_IfWait_goes_on c, gen_LetWait___init__ c, gen_LetWait_goes_on c, gen_LooseWait___init__ c, gen_LooseWait_goes_on c, gen_BackWait___init__ c, gen_BackWait_goes_on c, gen_Walk___init__ c, gen_Walk_at_number c, gen_Walk_at_truth c, gen_Walk_at_name c, gen_Walk_at_self c, gen_Walk_at_new c, gen_Walk_at_elder c, gen_Walk_at_call c, gen_Walk_at_two c, gen_Walk_at_set c, gen_Walk_at_field c, gen_Walk_at_not c, gen_Walk_at_if c, gen_Walk_at_let c, gen_Walk_enter c, gen_Walk_goes c, gen_Term___init__ c, gen_Term_meet c, gen_Term_plain c, gen_Term_parts c, gen_Term_depth c, gen_Term_size c, gen_NumberTerm___init__ c, gen_NumberTerm_meet c, gen_NumberTerm_plain c, gen_TruthTerm___init__ c, gen_TruthTerm_meet c, gen_TruthTerm_plain c, gen_NameTerm___init__ c, gen_NameTerm_meet c, gen_NameTerm_plain c, gen_SelfTerm___init__ c, gen_SelfTerm_meet c, gen_SelfTerm_plain c, gen_NewTerm___init__ c, gen_NewTerm_meet c, gen_NewTerm_plain c, gen_ElderTerm___init__ c, gen_ElderTerm_meet c, gen_ElderTerm_plain c, gen_FieldTerm___init__ c, gen_FieldTerm_meet c, gen_FieldTerm_plain c, gen_CallTerm___init__ c, gen_CallTerm_meet c, gen_CallTerm_plain c, gen_NotTerm___init__ c, gen_NotTerm_meet c, gen_NotTerm_plain c, gen_TwoTerm___init__ c, gen_TwoTerm_meet c, gen_TwoTerm_plain c, gen_IfTerm___init__ c, gen_IfTerm_meet c, gen_IfTerm_plain c, gen_LetTerm___init__ c, gen_LetTerm_meet c, gen_LetTerm_plain c, gen_SetTerm___init__ c, gen_SetTerm_meet c, gen_SetTerm_plain c, gen_Program___init__ c, gen_Program_bodies c, gen_Program_plain c, trivial⟩ h
theorem gloT {K : PySem.W.Frag} {h : Heap} {mg : Str → Option Value} (c : He.SaysD faT fnT K) (cc : exT K = true) (X : K.In h) (G : h.Ns mainGlobals mg) : Glo (moT K) mg where
  free := fun x hx => He.free_ok X G (SaysD.mem c (List.mem_append_left _ (List.mem_map_of_mem hx)))
  con := chkC_ok X G (ba cc).1
theorem plnT : (cdsT.all fun p => plnD nmT sgT.fn p.2) = true := by decide +kernel
theorem clsT {K : PySem.W.Frag} {h : Heap} {mg : Str → Option Value} (cc : exT K = true) (X : K.In h) (G : h.Ns mainGlobals mg) : ∀ c cd, sgT.cls c = some cd → ClsOk (moT K) mg c cd := fun c cd e =>
  chkD_ok (M := moT K) (at_ := atT) X G rfl (fun _ => rfl) (List.all_eq_true.mp (ba cc).2 _ (getC_mem e)) (List.all_eq_true.mp plnT _ (getC_mem e))
theorem fngT {K : PySem.W.Frag} {h : Heap} {mg : Str → Option Value} (c : He.SaysD faT fnT K) (X : K.In h) (G : h.Ns mainGlobals mg) : ∀ f, gfT f = true → mg (nmT f) = some (.ref (He.fAd K (atT f))) := fun f hf => by
  have e := He.glo_ok X G (SaysD.mem c (List.mem_append_right _ (List.mem_map_of_mem (f := fun f => He.Fa.glo (nmT f)) (List.contains_iff_mem.mp hf))))
  unfold atT
  rw [if_pos hf]
  exact e
theorem facts {P : Program} {w : World} {K : PySem.W.Frag} {h : Heap} {mg : Str → Option Value} {f : Addr} {k n : Nat} (X : K.In h) (G : h.Ns mainGlobals mg) (hfa : mg ("law" : Str) = some (.ref f)) (c : He.SaysD faT fnT K) (cc : exT K = true) :
    ∃ fd : FuncData, (∀ (s : Shared) (v : Value), BindsTo s fd ⟨[v], []⟩ [("_law_script", v)]) ∧ ∀ base : Heap, K.In base → base.Ns mainGlobals mg → FnG P w K mg base (L2.CX P w) (k + 1) f fd ["_law_script"] (spF (moT K) (k + 1) n_law 1) := by
  obtain ⟨fd, F⟩ := c.def_ 15 (d := ge_law) rfl
  have F' : FunD K ge_law.name ge_law.qual ge_law.params ge_law.body ge_law.scope [] (ge_law.kws K) ((moT K).fa n_law) fd := F
  have e := hfa.symm.trans (fngT c X G n_law rfl)
  have e' : f = (moT K).fa n_law := by injection e with e; injection e
  subst e'
  have b := FunD.bindsA (ps := ["_law_script"]) F' fun _ _ _ _ _ _ us hl => match us, hl with | [_], _ => rfl
  exact ⟨fd, fun s v => b s [v] rfl, fun base Xb Gb => fn_one (M := moT K) (f := n_law) (d := d_law) (gloT c cc X G) (fngT c X G) rfl (clsT cc X G) (fun j hj => funs_ok (gloT c cc X G) (fngT c X G) (clsT cc X G) (hallT c) k j hj) F' gc_law rfl rfl gm_law⟩
end Py

set_option Elab.async false
set_option linter.all false
set_option maxRecDepth 100000
set_option maxHeartbeats 4000000
/-! PyLaw: plain lemmas for readings. -/
namespace Py
open PySem
theorem strOk_lit (s : String) : PyData.strOk (Str.ofString s) = true := by
  rw [Str.ofString_eq_toList]
  unfold PyData.strOk
  rw [Array.all_eq_true']
  intro x hx
  simp only [List.mem_toArray, List.mem_map] at hx
  obtain ⟨c, _, rfl⟩ := hx
  have v : c.val.toNat < 0xd800 ∨ (0xdfff < c.val.toNat ∧ c.val.toNat < 0x110000) := c.valid
  have e : c.toNat = c.val.toNat := rfl
  refine decide_eq_true ?_
  rw [e]; omega
theorem lit_inj {a b : String} : Str.ofString a = Str.ofString b ↔ a = b := by
  constructor
  · intro e
    rw [Str.ofString_eq_toList, Str.ofString_eq_toList] at e
    injection e with e
    have e2 : a.toList.map Char.toNat = b.toList.map Char.toNat := by simpa using e
    have e3 : a.toList = b.toList := by
      have inj : ∀ (x y : List Char), x.map Char.toNat = y.map Char.toNat → x = y := by
        intro x
        induction x with
        | nil => intro y h; cases y with
          | nil => rfl
          | cons => cases h
        | cons c r ih => intro y h; cases y with
          | nil => cases h
          | cons d s =>
            simp only [List.map_cons, List.cons.injEq] at h
            have : c = d := Char.ext (UInt32.toNat_inj.mp h.1)
            rw [this, ih s h.2]
      exact inj _ _ e2
    exact String.toList_inj.mp e3
  · intro e; rw [e]
theorem lit_beq (a b : String) : (Str.ofString a == Str.ofString b) = (a == b) := by
  rw [Bool.eq_iff_iff, beq_iff_eq, beq_iff_eq]; exact lit_inj
theorem bqd {α : Type} [BEq α] [LawfulBEq α] [DecidableEq α] {a b : α} : (a == b) = decide (a = b) := by
  rw [Bool.eq_iff_iff, beq_iff_eq, decide_eq_true_iff]
mutual
def dat : PV → PyData
  | .non => .none
  | .bl b => .bool b
  | .int i => .int i
  | .str s => .str s
  | .tup xs => .tuple (dats xs)
  | .ref _ => .none
def dats : List PV → List PyData
  | [] => []
  | x :: r => dat x :: dats r
end
mutual
def flat : PV → Bool
  | .tup xs => flats xs
  | .ref _ => false
  | _ => true
def flats : List PV → Bool
  | [] => true
  | x :: r => flat x && flats r
end
mutual
theorem Dat_dat {h : PH} : ∀ x, flat x = true → Dat h (dat x) x
  | .non, _ => rfl
  | .bl b, _ => rfl
  | .int i, _ => rfl
  | .str s, _ => rfl
  | .tup xs, f => ⟨xs, rfl, Dats_dats xs f⟩
  | .ref _, f => by cases f
theorem Dats_dats {h : PH} : ∀ x, flats x = true → Dats h (dats x) x
  | [], _ => rfl
  | x :: r, f => by
    obtain ⟨a, b⟩ := Bool.and_eq_true_iff.mp (show (flat x && flats r) = true from f)
    exact ⟨x, r, rfl, Dat_dat x a, Dats_dats r b⟩
end
mutual
theorem Dat_un {h : PH} : ∀ d x, flat x = true → Dat h d x → d = dat x
  | .none, x, f, e => by cases (show x = .non from e); rfl
  | .bool b, x, f, e => by cases (show x = .bl b from e); rfl
  | .int i, x, f, e => by cases (show x = .int i from e); rfl
  | .str s, x, f, e => by cases (show x = .str s from e); rfl
  | .tuple ds, x, f, e => by
    obtain ⟨xs, rfl, e⟩ := e
    show PyData.tuple ds = .tuple (dats xs)
    rw [Dats_un ds xs f e]
  | .list ds, x, f, e => by
    obtain ⟨xs, e, _⟩ := e
    cases x with
    | ref a => cases f
    | _ => cases e
  | .dict _, x, f, e => e.elim
theorem Dats_un {h : PH} : ∀ d x, flats x = true → Dats h d x → d = dats x
  | [], x, f, e => by cases (show x = [] from e); rfl
  | d :: ds, x, f, e => by
    obtain ⟨y, ys, rfl, e1, e2⟩ := e
    obtain ⟨a, b⟩ := Bool.and_eq_true_iff.mp (show (flat y && flats ys) = true from f)
    show d :: ds = dat y :: dats ys
    rw [Dat_un d y a e1, Dats_un ds ys b e2]
end
def okV (x : PV) : Bool := flat x && SeqAt.shaped (dat x)
theorem cmp_eq {x y : PV} {h : PH} {Q : Bool → PH → Prop} (a : okV x = true) (b : okV y = true) : cmpV .eq x y h Q = Q (PyData.eqv (dat x) (dat y)) h := by
  obtain ⟨a1, a2⟩ := Bool.and_eq_true_iff.mp a
  obtain ⟨b1, b2⟩ := Bool.and_eq_true_iff.mp b
  have gen : ((∃ d e, Dat h d x ∧ Dat h e y ∧ SeqAt.shaped d = true ∧ SeqAt.shaped e = true ∧ Q (PyData.eqv d e) h) ∨ ∃ a b xs ys, x = .ref a ∧ y = .ref b ∧ lstOf h (.ref a) = some xs ∧ lstOf h (.ref b) = some ys ∧ xs.length ≠ ys.length ∧ Q false h) = Q (PyData.eqv (dat x) (dat y)) h := by
    refine propext ⟨fun z => ?_, fun r => .inl ⟨_, _, Dat_dat x a1, Dat_dat y b1, a2, b2, r⟩⟩
    rcases z with ⟨d, e, p, q, _, _, r⟩ | ⟨p, q, xs, ys, rfl, _⟩
    · rw [← Dat_un d x a1 p, ← Dat_un e y b1 q]; exact r
    · exact absurd a1 Bool.false_ne_true
  cases x <;> cases y <;> first | exact gen | (show Q (decide (_ = _)) h = Q (_ == _) h; rw [bqd])
theorem cmp_ne {x y : PV} {h : PH} {Q : Bool → PH → Prop} (a : okV x = true) (b : okV y = true) : cmpV .ne x y h Q = Q (!PyData.eqv (dat x) (dat y)) h := by
  obtain ⟨a1, a2⟩ := Bool.and_eq_true_iff.mp a
  obtain ⟨b1, b2⟩ := Bool.and_eq_true_iff.mp b
  have gen : ((∃ d e, Dat h d x ∧ Dat h e y ∧ SeqAt.shaped d = true ∧ SeqAt.shaped e = true ∧ Q (!PyData.eqv d e) h) ∨ ∃ a b xs ys, x = .ref a ∧ y = .ref b ∧ lstOf h (.ref a) = some xs ∧ lstOf h (.ref b) = some ys ∧ xs.length ≠ ys.length ∧ Q true h) = Q (!PyData.eqv (dat x) (dat y)) h := by
    refine propext ⟨fun z => ?_, fun r => .inl ⟨_, _, Dat_dat x a1, Dat_dat y b1, a2, b2, r⟩⟩
    rcases z with ⟨d, e, p, q, _, _, r⟩ | ⟨p, q, xs, ys, rfl, _⟩
    · rw [← Dat_un d x a1 p, ← Dat_un e y b1 q]; exact r
    · exact absurd a1 Bool.false_ne_true
  cases x <;> cases y <;> first | exact gen | (show Q (!decide (_ = _)) h = Q (!(_ == _)) h; rw [bqd])
theorem eq_int {i j : Int} {h : PH} {Q : Bool → PH → Prop} : cmpV .eq (.int i) (.int j) h Q = Q (decide (i = j)) h := by
  rw [cmp_eq rfl rfl]; show Q (i == j) h = _; rw [bqd]
theorem ne_int {i j : Int} {h : PH} {Q : Bool → PH → Prop} : cmpV .ne (.int i) (.int j) h Q = Q (decide (i ≠ j)) h := by
  rw [cmp_ne rfl rfl]; show Q (!(i == j)) h = _; rw [bqd, decide_not]
theorem okV_lit {s : String} : okV (.str (Str.ofString s)) = true := by
  show (true && (PyData.strOk (Str.ofString s) && _)) = true
  rw [strOk_lit]; rfl
theorem eq_lit {i j : String} {h : PH} {Q : Bool → PH → Prop} : cmpV .eq (.str (Str.ofString i)) (.str (Str.ofString j)) h Q = Q (decide (i = j)) h := by
  rw [cmp_eq okV_lit okV_lit]; show Q (Str.ofString i == Str.ofString j) h = _; rw [lit_beq, bqd]
theorem ne_lit {i j : String} {h : PH} {Q : Bool → PH → Prop} : cmpV .ne (.str (Str.ofString i)) (.str (Str.ofString j)) h Q = Q (decide (i ≠ j)) h := by
  rw [cmp_ne okV_lit okV_lit]; show Q (!(Str.ofString i == Str.ofString j)) h = _; rw [lit_beq, bqd, decide_not]
/-- a call, entered -/
theorem call_in {G : Sig} {k f : Nat} {d : FD} {args : List PV} {h : PH} {Q : KQ} {X : KX} (e : G.fn f = some d) (l : args.length = d.np) :
    callS G (k + 1) (.fn f) args h Q X = evB G (callS G k) d.body (startL d args) h ⟨fun _ h' => Q .non h', Q, fun _ _ => False, fun x _ h' => X x h'⟩ := by
  have e0 : fill d.dfl args d.np = args := by
    show args ++ d.dfl.drop (d.dfl.length - (d.np - args.length)) = args
    rw [l, Nat.sub_self, Nat.sub_zero, List.drop_length, List.append_nil]
  refine propext ⟨fun ⟨d', e', _, _, q⟩ => ?_, fun q => ⟨d, e, by rw [e0, l], Nat.le_of_eq l, by rw [e0]; exact q⟩⟩
  rw [e] at e'; cases e'
  rw [e0] at q; exact q
theorem ex_int {i : Int} {P : Int → Prop} : (∃ j, PV.int i = .int j ∧ P j) = P i := propext ⟨fun ⟨j, e, p⟩ => by cases e; exact p, fun p => ⟨i, rfl, p⟩⟩
theorem ex_bl {i : Bool} {P : Bool → Prop} : (∃ j, PV.bl i = .bl j ∧ P j) = P i := propext ⟨fun ⟨j, e, p⟩ => by cases e; exact p, fun p => ⟨i, rfl, p⟩⟩
theorem ex_tup {i : List PV} {P : List PV → Prop} : (∃ j, PV.tup i = .tup j ∧ P j) = P i := propext ⟨fun ⟨j, e, p⟩ => by cases e; exact p, fun p => ⟨i, rfl, p⟩⟩
theorem ex_seqT {i : List PV} {h : PH} {P : List PV → Prop} : (∃ j, seqOf h (.tup i) = some j ∧ P j) = P i := propext ⟨fun ⟨j, e, p⟩ => by cases e; exact p, fun p => ⟨i, rfl, p⟩⟩
theorem ex_some {α : Type} {i : α} {P : α → Prop} : (∃ j, some i = some j ∧ P j) = P i := propext ⟨fun ⟨j, e, p⟩ => by cases e; exact p, fun p => ⟨i, rfl, p⟩⟩
theorem ex_var {v : PV} {P : PV → Prop} : (∃ j, (some (some v) : Option (Option PV)) = some (some j) ∧ P j) = P v := propext ⟨fun ⟨j, e, p⟩ => by cases e; exact p, fun p => ⟨v, rfl, p⟩⟩
theorem bAdd {i j : Int} {h : PH} {Q : KQ} : binV .add (.int i) (.int j) h Q = Q (.int (i + j)) h := rfl
theorem bAddS {i j : Str} {h : PH} {Q : KQ} : binV .add (.str i) (.str j) h Q = (i.length + j.length ≤ SZ ∧ Q (.str (i ++ j)) h) := rfl
theorem bAddT {i j : List PV} {h : PH} {Q : KQ} : binV .add (.tup i) (.tup j) h Q = (i.length + j.length ≤ SZ ∧ Q (.tup (i ++ j)) h) := rfl
theorem bAddL {a b : Nat} {h : PH} {Q : KQ} : binV .add (.ref a) (.ref b) h Q = ∃ xs ys, h[a]? = some (.lst xs) ∧ h[b]? = some (.lst ys) ∧ xs.length + ys.length ≤ SZ ∧ Q (.ref h.length) (h ++ [.lst (xs ++ ys)]) := rfl
theorem bSub {i j : Int} {h : PH} {Q : KQ} : binV .sub (.int i) (.int j) h Q = Q (.int (i - j)) h := rfl
theorem bMul {i j : Int} {h : PH} {Q : KQ} : binV .mul (.int i) (.int j) h Q = (mulOk i j ∧ Q (.int (i * j)) h) := rfl
theorem bDiv {i j : Int} {h : PH} {Q : KQ} : binV .fdiv (.int i) (.int j) h Q = (j ≠ 0 ∧ j.natAbs.log2 < 9000 ∧ Q (.int (i.fdiv j)) h) := rfl
theorem bMod {i j : Int} {h : PH} {Q : KQ} : binV .mod (.int i) (.int j) h Q = (j ≠ 0 ∧ Q (.int (i.fmod j)) h) := rfl
theorem bPow {i j : Int} {h : PH} {Q : KQ} : binV .pow (.int i) (.int j) h Q = ((0 ≤ j ∧ j ≤ 1000000 ∧ i.natAbs < 2 ^ 64) ∧ Q (.int (i ^ j.toNat)) h) := rfl
/-- division by a literal -/
theorem bDivL {i j : Int} {h : PH} {Q : KQ} (p : 0 < j) (l : j < 18446744073709551616) : binV .fdiv (.int i) (.int j) h Q = Q (.int (i / j)) h := by
  rw [bDiv, Int.fdiv_eq_ediv_of_nonneg _ (by omega)]
  refine propext ⟨fun q => q.2.2, fun q => ⟨by omega, ?_, q⟩⟩
  have : j.natAbs.log2 < 64 := (Nat.log2_lt (by omega)).mpr (by omega)
  omega
theorem bModL {i j : Int} {h : PH} {Q : KQ} (p : 0 < j) : binV .mod (.int i) (.int j) h Q = Q (.int (i % j)) h := by
  rw [bMod, Int.fmod_eq_emod_of_nonneg _ (by omega)]
  exact propext ⟨fun q => q.2, fun q => ⟨by omega, q⟩⟩
theorem bMulR {i j : Int} {h : PH} {Q : KQ} (p : -18446744073709551616 < j) (l : j < 18446744073709551616) : binV .mul (.int i) (.int j) h Q = Q (.int (i * j)) h := propext ⟨fun q => q.2, fun q => ⟨.inr (by omega), q⟩⟩
theorem bMulL {i j : Int} {h : PH} {Q : KQ} (p : -18446744073709551616 < j) (l : j < 18446744073709551616) : binV .mul (.int j) (.int i) h Q = Q (.int (j * i)) h := propext ⟨fun q => q.2, fun q => ⟨.inl (by omega), q⟩⟩
theorem cLt {i j : Int} {h : PH} {Q : Bool → PH → Prop} : cmpV .lt (.int i) (.int j) h Q = Q (decide (i < j)) h := rfl
theorem cLe {i j : Int} {h : PH} {Q : Bool → PH → Prop} : cmpV .le (.int i) (.int j) h Q = Q (decide (i ≤ j)) h := rfl
theorem cGt {i j : Int} {h : PH} {Q : Bool → PH → Prop} : cmpV .gt (.int i) (.int j) h Q = Q (decide (j < i)) h := rfl
theorem cGe {i j : Int} {h : PH} {Q : Bool → PH → Prop} : cmpV .ge (.int i) (.int j) h Q = Q (decide (j ≤ i)) h := rfl
theorem cIs {x : PV} {h : PH} {Q : Bool → PH → Prop} : cmpV .isN x .non h Q = Q (isNonB x) h := rfl
theorem cNot {x : PV} {h : PH} {Q : Bool → PH → Prop} : cmpV .notN x .non h Q = Q (!isNonB x) h := rfl
theorem iTup {xs : List PV} {i : Int} {h : PH} {Q : KQ} : idxV (.tup xs) (.int i) h Q = ∃ v, atI xs i = some v ∧ Q v h := rfl
theorem iRef {a : Nat} {i : Int} {h : PH} {Q : KQ} : idxV (.ref a) (.int i) h Q = ∃ xs, lstOf h (.ref a) = some xs ∧ ∃ v, atI xs i = some v ∧ Q v h := propext ⟨fun ⟨xs, v, a, b, c⟩ => ⟨xs, a, v, b, c⟩, fun ⟨xs, a, v, b, c⟩ => ⟨xs, v, a, b, c⟩⟩
theorem iT0 {x : PV} {r : List PV} {h : PH} {Q : KQ} : idxV (.tup (x :: r)) (.int 0) h Q = Q x h := by
  rw [iTup]; refine propext ⟨fun ⟨v, e, q⟩ => ?_, fun q => ⟨x, ?_, q⟩⟩
  · have : atI (x :: r) (0 : Int) = some x := by
      unfold atI ixN; rw [if_pos (by omega), if_pos (by first | (simp; done) | (simp; omega))]; rfl
    rw [this] at e; cases e; exact q
  · unfold atI ixN; rw [if_pos (by omega), if_pos (by first | (simp; done) | (simp; omega))]; rfl
theorem iT1 {x y : PV} {r : List PV} {h : PH} {Q : KQ} : idxV (.tup (x :: y :: r)) (.int 1) h Q = Q y h := by
  have e1 : atI (x :: y :: r) (1 : Int) = some y := by
    unfold atI ixN; rw [if_pos (by omega), if_pos (by first | (simp; done) | (simp; omega))]; rfl
  rw [iTup]; refine propext ⟨fun ⟨v, e, q⟩ => ?_, fun q => ⟨y, e1, q⟩⟩
  rw [e1] at e; cases e; exact q
theorem fMin {i j : Int} {h : PH} {Q : KQ} : bfV .min2 [.int i, .int j] h Q = Q (.int (if j < i then j else i)) h := rfl
theorem fMax {i j : Int} {h : PH} {Q : KQ} : bfV .max2 [.int i, .int j] h Q = Q (.int (if j > i then j else i)) h := rfl
theorem fAbs {i : Int} {h : PH} {Q : KQ} : bfV .abs [.int i] h Q = Q (.int (if i < 0 then -i else i)) h := rfl
theorem fLenT {xs : List PV} {h : PH} {Q : KQ} : bfV .len [.tup xs] h Q = Q (.int xs.length) h := propext ⟨fun ⟨_, e, q⟩ => by cases e; exact q, fun q => ⟨xs, rfl, q⟩⟩
theorem fLenL {a : Nat} {h : PH} {Q : KQ} : bfV .len [.ref a] h Q = ∃ xs, lstOf h (.ref a) = some xs ∧ Q (.int xs.length) h := rfl
theorem sz2 {P : Prop} {n : Nat} (h : n ≤ SZ) : (n ≤ SZ ∧ P) = P := propext ⟨fun q => q.2, fun q => ⟨h, q⟩⟩
theorem tyT {xs : List PV} {h : PH} : tyN h (.tup xs) = some "tuple" := rfl
theorem tyI {i : Int} {h : PH} : tyN h (.int i) = some "int" := rfl
theorem tyB {b : Bool} {h : PH} : tyN h (.bl b) = some "bool" := rfl
theorem tyS {s : Str} {h : PH} : tyN h (.str s) = some "str" := rfl
theorem truB {b : Bool} {h : PH} : truV h (.bl b) = some b := rfl
theorem truI {b : Int} {h : PH} : truV h (.int b) = some (b != 0) := rfl
theorem bPowL {i j : Int} {h : PH} {Q : KQ} (a : 0 ≤ j) (b : j ≤ 1000000) (p : -18446744073709551616 < i) (l : i < 18446744073709551616) : binV .pow (.int i) (.int j) h Q = Q (.int (i ^ j.toNat)) h := propext ⟨fun q => q.2, fun q => ⟨⟨a, b, by omega⟩, q⟩⟩
theorem lstOf_app {h t : PH} {a : Nat} {xs : List PV} (e : lstOf h (.ref a) = some xs) : lstOf (h ++ t) (.ref a) = some xs := by
  unfold lstOf at e ⊢
  by_cases hl : a < h.length
  · simp only [List.getElem?_append_left hl]; exact e
  · simp only [List.getElem?_eq_none (Nat.le_of_not_lt hl)] at e; cases e
theorem lstOf_new {h : PH} {xs : List PV} : lstOf (h ++ [.lst xs]) (.ref h.length) = some xs := by
  unfold lstOf; simp
theorem items_ref {h : PH} {a : Nat} : itemsOf h (.ref a) = lstOf h (.ref a) := rfl
theorem items_tup {h : PH} {a : List PV} : itemsOf h (.tup a) = some a := rfl
theorem iter_inv {live : PH → Prop} {body : PV → Loc → PH → (Loc → PH → Prop) → Prop} {fin : Loc → PH → Prop} (Inv : Loc → PH → Prop) (hl : ∀ l h, Inv l h → live h) (hf : ∀ l h, Inv l h → fin l h) :
    ∀ (xs : List PV), (∀ x ∈ xs, ∀ l h K, Inv l h → (∀ l' h', Inv l' h' → K l' h') → body x l h K) → ∀ l h, Inv l h → iterL live body fin xs l h
  | [], _, l, h, i => ⟨hl l h i, hf l h i⟩
  | x :: r, hb, l, h, i => ⟨hl l h i, hb x (List.mem_cons_self ..) l h _ i fun l' h' i' => iter_inv Inv hl hf r (fun y hy => hb y (List.mem_cons_of_mem _ hy)) l' h' i'⟩
theorem mem_range {lo : Int} {n : Nat} {x : PV} (hx : x ∈ rangeL lo n) : ∃ k : Nat, k < n ∧ x = .int (lo + k) := by
  unfold rangeL at hx
  obtain ⟨k, a, b⟩ := List.mem_map.mp hx
  exact ⟨k, List.mem_range.mp a, b.symm⟩
theorem atI_nat {α : Type} {xs : List α} {k : Nat} : atI xs (k : Int) = xs[k]? := by
  unfold atI ixN
  rw [if_pos (Int.natCast_nonneg k)]
  by_cases hk : k < xs.length
  · rw [if_pos (by omega)]; rfl
  · rw [if_neg (by omega), List.getElem?_eq_none (Nat.le_of_not_lt hk)]; rfl
theorem bMulOk {i j : Int} {h : PH} {Q : KQ} (p : -18446744073709551616 < j ∧ j < 18446744073709551616) : binV .mul (.int i) (.int j) h Q = Q (.int (i * j)) h := bMulR p.1 p.2
theorem live_ref {a : Nat} {xs : List PV} {h : PH} : liveL (.ref a) xs h = (lstOf h (.ref a) = some xs) := rfl
theorem live_tup {a xs : List PV} {h : PH} : liveL (.tup a) xs h = True := rfl
theorem ex_cons {α : Type} {a : α} {b : List α} {P : α → List α → Prop} : (∃ v r, a :: b = v :: r ∧ P v r) = P a b := propext ⟨fun ⟨v, r, e, q⟩ => by cases e; exact q, fun q => ⟨a, b, rfl, q⟩⟩
end Py

set_option Elab.async false
set_option linter.all false
set_option maxRecDepth 100000
set_option maxHeartbeats 4000000
/-! PyLaw2: repr, comprehensions, sequences. -/
namespace Py
open PySem
/-! ### what repr takes -/
/-- flat data of depth at most n, shown in at most c signs -/
structure Rp (n c : Nat) (v : PV) : Prop where
  fl : flat v = true
  lay : (dat v).canLay0 = true
  dep : (dat v).depth ≤ n
  sho : (dat v).showable = true
  len : (dat v).shown.length ≤ c
theorem Rp.mono {n c n' c' : Nat} {v : PV} (r : Rp n c v) (h : n ≤ n') (h' : c ≤ c') : Rp n' c' v := ⟨r.fl, r.lay, Nat.le_trans r.dep h, r.sho, Nat.le_trans r.len h'⟩
theorem Rp.int {i : Int} (h : i.natAbs < 10 ^ 20) : Rp 0 21 (.int i) := by
  refine ⟨rfl, rfl, Nat.le_refl _, ?_, ?_⟩
  · show decide (i.natAbs.log2 < 1920) = true
    refine decide_eq_true ?_
    by_cases h0 : i.natAbs = 0
    · rw [h0]; decide
    · have : i.natAbs.log2 < 70 := (Nat.log2_lt h0).mpr (by omega)
      omega
  · have e := int_text_length_le10 (k := 20) (by decide) h
    show (Str.ofString (toString i)).length ≤ 21
    rw [ofString_length]; exact e
theorem Rp.bl {b : Bool} : Rp 0 5 (.bl b) := by
  refine ⟨rfl, rfl, Nat.le_refl _, rfl, ?_⟩
  cases b <;> decide +kernel
theorem Rp.non : Rp 0 5 .non := ⟨rfl, rfl, Nat.le_refl _, rfl, by decide +kernel⟩
theorem Rp.lit {s : String} {c : Nat} (h : (reprText (Str.ofString s)).length ≤ c) : Rp 0 c (.str (Str.ofString s)) := ⟨rfl, strOk_lit s, Nat.le_refl _, rfl, h⟩
theorem dats_app : ∀ (xs ys : List PV), dats (xs ++ ys) = dats xs ++ dats ys
  | [], _ => rfl
  | x :: xs, ys => congrArg (dat x :: ·) (dats_app xs ys)
theorem Rps {n c : Nat} : ∀ {xs : List PV}, (∀ x ∈ xs, Rp n c x) → flats xs = true ∧ PyData.canLayAll0 (dats xs) = true ∧ PyData.depthAll (dats xs) ≤ n ∧ PyData.showableAll (dats xs) = true ∧
    ((PyData.shownAll (dats xs)).map (·.length)).sum ≤ c * xs.length ∧ (PyData.shownAll (dats xs)).length = xs.length
  | [], _ => ⟨rfl, rfl, Nat.zero_le _, rfl, Nat.zero_le _, rfl⟩
  | x :: xs, h => by
    obtain ⟨a, b, c', d, e, f⟩ := Rps (fun y hy => h y (List.mem_cons_of_mem _ hy))
    have r := h x (List.mem_cons_self ..)
    refine ⟨by show (flat x && flats xs) = true; rw [r.fl, a]; rfl, by show (PyData.canLay0 _ && PyData.canLayAll0 _) = true; rw [r.lay, b]; rfl, ?_, by show (PyData.showable _ && PyData.showableAll _) = true; rw [r.sho, d]; rfl, ?_, by show (PyData.shownAll (dats xs)).length + 1 = xs.length + 1; rw [f]⟩
    · show max (PyData.depth (dat x)) (PyData.depthAll (dats xs)) ≤ n
      exact Nat.max_le.mpr ⟨r.dep, c'⟩
    · show (PyData.shown (dat x)).length + ((PyData.shownAll (dats xs)).map (·.length)).sum ≤ c * (xs.length + 1)
      have := r.len
      rw [Nat.mul_add, Nat.mul_one]; omega
theorem Rp.tup {n c m : Nat} {xs : List PV} (h : ∀ x ∈ xs, Rp n c x) (hm : xs.length ≤ m) : Rp (n + 1) ((c + 2) * m + 3) (.tup xs) := by
  obtain ⟨a, b, c', d, e, f⟩ := Rps h
  refine ⟨a, b, Nat.succ_le_succ c', d, ?_⟩
  have t := tupleText_len_le (PyData.shownAll (dats xs))
  show (tupleText (PyData.shownAll (dats xs))).length ≤ _
  rw [f] at t
  have h1 : c * xs.length ≤ c * m := Nat.mul_le_mul_left _ hm
  have h2 : (c + 2) * m = c * m + 2 * m := Nat.add_mul _ _ _
  omega
theorem ok_of {n c : Nat} {v : PV} (r : Rp n c v) (h : n ≤ 64) : okV v = true := by
  unfold okV SeqAt.shaped
  rw [r.fl, r.lay, decide_eq_true (Nat.le_trans r.dep h)]; rfl
/-- repr of a tuple -/
theorem s_repr {n c : Nat} {xs : List PV} {h : PH} {Q : KQ} (r : Rp n c (.tup xs)) (hn : n ≤ 64) (hc : c ≤ 16777216) (q : Q (.str (dat (.tup xs)).shown) h) : bfV .repr1 [.tup xs] h Q := by
  have o := ok_of r hn
  exact ⟨_, rfl, Dat_dat _ r.fl, (Bool.and_eq_true_iff.mp o).2, r.sho, Nat.le_trans r.len hc, q⟩
/-! ### comprehensions whose terms leave the heap as it is -/
theorem comp_all {live : PH → Prop} {h0 : PH} {body : PV → PH → (Option PV → PH → Prop) → Prop} {fin : PH → Prop} (P : PV → Prop) (hl : ∀ acc, live (h0 ++ [.lst acc])) :
    ∀ (items acc : List PV), (∀ x ∈ items, ∀ acc k, (∀ v, P v → k (some v) (h0 ++ [.lst acc])) → body x (h0 ++ [.lst acc]) k) → (∀ v ∈ acc, P v) → acc.length + items.length ≤ SZ →
      (∀ vs, vs.length = acc.length + items.length → (∀ v ∈ vs, P v) → fin (h0 ++ [.lst vs])) → compL live h0.length body fin items (h0 ++ [.lst acc])
  | [], acc, hb, ha, hz, hf => ⟨hl acc, hf acc rfl ha⟩
  | x :: r, acc, hb, ha, hz, hf => ⟨hl acc, hb x (List.mem_cons_self ..) acc _ fun v pv => ⟨acc, by simp, by simp at hz; omega, by
      have e : (h0 ++ [PO.lst acc]).set h0.length (.lst (acc ++ [v])) = h0 ++ [.lst (acc ++ [v])] := by
        rw [List.set_append_right _ _ (Nat.le_refl _), Nat.sub_self]; rfl
      rw [e]
      refine comp_all P hl r (acc ++ [v]) (fun y hy => hb y (List.mem_cons_of_mem _ hy)) (fun w hw => ?_) (by simp at hz ⊢; omega) (fun vs hv => hf vs (by simp at hv ⊢; omega))
      rcases List.mem_append.mp hw with hw | hw
      · exact ha w hw
      · rw [List.mem_singleton.mp hw]; exact pv⟩⟩
/-- a comprehension whose terms are told by f -/
theorem comp_fun {live : PH → Prop} {h0 : PH} {body : PV → PH → (Option PV → PH → Prop) → Prop} {fin : PH → Prop} (f : PV → Option PV) (hl : ∀ acc, live (h0 ++ [.lst acc])) :
    ∀ (items acc : List PV), (∀ x ∈ items, ∀ acc k, k (f x) (h0 ++ [.lst acc]) → body x (h0 ++ [.lst acc]) k) → acc.length + items.length ≤ SZ → fin (h0 ++ [.lst (acc ++ items.filterMap f)]) → compL live h0.length body fin items (h0 ++ [.lst acc])
  | [], acc, hb, hz, hf => ⟨hl acc, by rw [List.filterMap_nil, List.append_nil] at hf; exact hf⟩
  | x :: r, acc, hb, hz, hf => ⟨hl acc, hb x (List.mem_cons_self ..) acc _ (by
      cases e : f x with
      | none =>
        rw [List.filterMap_cons_none e] at hf
        exact comp_fun f hl r acc (fun y hy => hb y (List.mem_cons_of_mem _ hy)) (by simp at hz ⊢; omega) hf
      | some v =>
        rw [List.filterMap_cons_some e] at hf
        refine ⟨acc, by simp, by simp at hz; omega, ?_⟩
        have e2 : (h0 ++ [PO.lst acc]).set h0.length (.lst (acc ++ [v])) = h0 ++ [.lst (acc ++ [v])] := by
          rw [List.set_append_right _ _ (Nat.le_refl _), Nat.sub_self]; rfl
        rw [e2]
        exact comp_fun f hl r (acc ++ [v]) (fun y hy => hb y (List.mem_cons_of_mem _ hy)) (by simp at hz ⊢; omega) (by rw [List.append_assoc]; exact hf))⟩
/-! ### sequences -/
theorem at_last {α : Type} {xs : List α} {x : α} : atI (xs ++ [x]) (-1 : Int) = some x := by
  unfold atI ixN
  rw [if_neg (by omega), if_pos (by simp; omega)]
  have : (-1 + ((xs ++ [x]).length : Int)).toNat = xs.length := by simp; omega
  rw [this]; simp
theorem at_last1 {α : Type} {xs : List α} {x y : α} : atI (xs ++ [x, y]) (-1 : Int) = some y := by
  rw [show xs ++ [x, y] = (xs ++ [x]) ++ [y] by simp]; exact at_last
theorem at_last2 {α : Type} {xs : List α} {x y : α} : atI (xs ++ [x, y]) (-2 : Int) = some x := by
  unfold atI ixN
  rw [if_neg (by omega), if_pos (by simp; omega)]
  have : (-2 + ((xs ++ [x, y]).length : Int)).toNat = xs.length := by simp; omega
  rw [this]; simp
theorem cut_last {α : Type} {xs : List α} {x : α} : cut (xs ++ [x]) none (some (-1)) = xs := by
  unfold cut sIx
  dsimp only
  have : (-1 + ((xs ++ [x]).length : Int)).toNat = xs.length := by simp; omega
  rw [if_pos (by omega), this]; simp
theorem cut_last2 {α : Type} {xs : List α} {x y : α} : cut (xs ++ [x, y]) none (some (-2)) = xs := by
  unfold cut sIx
  dsimp only
  have : (-2 + ((xs ++ [x, y]).length : Int)).toNat = xs.length := by simp; omega
  rw [if_pos (by omega), this]; simp
theorem inT {a : Str} {xs : List PV} {h : PH} {Q : Bool → PH → Prop} : cmpV .inn (.str a) (.tup xs) h Q = (xs.all flP = true ∧ Q (xs.any fun z => eqP z (.str a)) h) :=
  propext ⟨fun ⟨ys, e, _, f, q⟩ => by cases e; exact ⟨f, q⟩, fun ⟨f, q⟩ => ⟨xs, rfl, rfl, f, q⟩⟩
theorem notBl {x : PV} {b : Bool} {h : PH} {Q : Bool → PH → Prop} : cmpV .notN x (.bl b) h Q = (notRef x = true ∧ Q (!isBlB b x) h) := rfl
theorem isBl {x : PV} {b : Bool} {h : PH} {Q : Bool → PH → Prop} : cmpV .isN x (.bl b) h Q = (notRef x = true ∧ Q (isBlB b x) h) := rfl
theorem slT {xs : List PV} {lo hi : Option Int} {h : PH} {Q : KQ} : slcV (.tup xs) lo hi h Q = Q (.tup (cut xs lo hi)) h := rfl
theorem slL {a : Nat} {lo hi : Option Int} {h : PH} {Q : KQ} : slcV (.ref a) lo hi h Q = ∃ xs, lstOf h (.ref a) = some xs ∧ Q (.ref h.length) (h ++ [.lst (cut xs lo hi)]) := rfl
theorem fTupL {a : Nat} {h : PH} {Q : KQ} : bfV .tuple1 [.ref a] h Q = ∃ xs, lstOf h (.ref a) = some xs ∧ Q (.tup xs) h := rfl
theorem fTupT {xs : List PV} {h : PH} {Q : KQ} : bfV .tuple1 [.tup xs] h Q = Q (.tup xs) h := rfl
theorem fListL {a : Nat} {h : PH} {Q : KQ} : bfV .list1 [.ref a] h Q = ∃ xs, lstOf h (.ref a) = some xs ∧ Q (.ref h.length) (h ++ [.lst xs]) := rfl
theorem fInt {i : Int} {h : PH} {Q : KQ} : bfV .int1 [.int i] h Q = Q (.int i) h := rfl
theorem fIntB {i : Bool} {h : PH} {Q : KQ} : bfV .int1 [.bl i] h Q = Q (.int (if i then 1 else 0)) h := rfl
theorem mApp {a : Nat} {y : PV} {h : PH} {Q : KQ} : bmV .append (.ref a) [y] h Q = ∃ xs, h[a]? = some (.lst xs) ∧ xs.length < SZ ∧ Q .non (h.set a (.lst (xs ++ [y]))) := rfl
theorem wipe0 {l : Loc} : wipeL l [] = l := rfl
theorem wipe1 {l : Loc} {v : Nat} {vs : List Nat} : wipeL l (v :: vs) = (wipeL l vs).set v none := rfl
theorem get_new {h : PH} {o : PO} : (h ++ [o])[h.length]? = some o := by simp
theorem set_new {h : PH} {o u : PO} : (h ++ [o]).set h.length u = h ++ [u] := by
  rw [List.set_append_right _ _ (Nat.le_refl _), Nat.sub_self]; rfl
theorem ex_lst {a : List PV} {P : List PV → Prop} : (∃ acc, some (PO.lst a) = some (PO.lst acc) ∧ P acc) = P a := propext ⟨fun ⟨j, e, p⟩ => by cases e; exact p, fun p => ⟨a, rfl, p⟩⟩
theorem iL0 {a : Nat} {x : PV} {r : List PV} {h : PH} {Q : KQ} (e : lstOf h (.ref a) = some (x :: r)) : idxV (.ref a) (.int 0) h Q = Q x h := by
  have e1 : atI (x :: r) (0 : Int) = some x := by
    unfold atI ixN; rw [if_pos (by omega), if_pos (by first | (simp; done) | (simp; omega))]; rfl
  rw [iRef]
  exact propext ⟨fun ⟨xs, e2, v, e3, q⟩ => by rw [e] at e2; cases e2; rw [e1] at e3; cases e3; exact q, fun q => ⟨_, e, x, e1, q⟩⟩
theorem iAt {xs : List PV} {i : Int} {v : PV} (e : atI xs i = some v) {h : PH} {Q : KQ} : idxV (.tup xs) (.int i) h Q = Q v h := by
  rw [iTup]; exact propext ⟨fun ⟨w, e2, q⟩ => by rw [e] at e2; cases e2; exact q, fun q => ⟨v, e, q⟩⟩
theorem iM1 {xs : List PV} {x : PV} {h : PH} {Q : KQ} : idxV (.tup (xs ++ [x])) (.int (-1)) h Q = Q x h := iAt at_last
theorem iM1' {xs : List PV} {x y : PV} {h : PH} {Q : KQ} : idxV (.tup (xs ++ [x, y])) (.int (-1)) h Q = Q y h := iAt at_last1
theorem iM2 {xs : List PV} {x y : PV} {h : PH} {Q : KQ} : idxV (.tup (xs ++ [x, y])) (.int (-2)) h Q = Q x h := iAt at_last2
end Py

set_option Elab.async false
set_option linter.all false
set_option maxRecDepth 100000
set_option maxHeartbeats 4000000
/-! PyLaw3: instances, dicts, what stays of a heap. -/
namespace Py
open PySem
section
variable {G : Sig} {h : PH} {p c f : Nat} {fs : List (Nat × PV)} {cd : CD} {v : PV}
/-- a field read -/
theorem ex_attr {R : PV → Prop} (e : h[p]? = some (.ins c fs)) (hc : G.cls c = some cd) (hf : cd.fields.contains f = true) (g : getN f fs = some v) :
    (∃ p' c' fs' v' cd', PV.ref p = .ref p' ∧ h[p']? = some (.ins c' fs') ∧ G.cls c' = some cd' ∧ cd'.fields.contains f = true ∧ getN f fs' = some v' ∧ R v') = R v := by
  refine propext ⟨fun ⟨p', c', fs', v', cd', e1, e2, e3, _, e5, q⟩ => ?_, fun q => ⟨p, c, fs, v, cd, rfl, e, hc, hf, g, q⟩⟩
  cases e1
  rw [e] at e2; cases e2
  rw [g] at e5; cases e5
  exact q
/-- a field set -/
theorem ex_set {R : Nat → Nat → List (Nat × PV) → Prop} (e : h[p]? = some (.ins c fs)) (hc : G.cls c = some cd) (hf : cd.fields.contains f = true) (hl : fs.length < 900) :
    (∃ p' c' fs' cd', PV.ref p = .ref p' ∧ h[p']? = some (.ins c' fs') ∧ G.cls c' = some cd' ∧ cd'.fields.contains f = true ∧ fs'.length < 900 ∧ R p' c' fs') = R p c fs := by
  refine propext ⟨fun ⟨p', c', fs', cd', e1, e2, _, _, _, q⟩ => ?_, fun q => ⟨p, c, fs, cd, rfl, e, hc, hf, hl, q⟩⟩
  cases e1
  rw [e] at e2; cases e2
  exact q
/-- a method found -/
theorem ex_meth {m : Nat} {R : Nat → Prop} (e : h[p]? = some (.ins c fs)) (hc : G.cls c = some cd) (hm : getM m cd.meths = some f) :
    (∃ p' c' fs' cd' f', PV.ref p = .ref p' ∧ h[p']? = some (.ins c' fs') ∧ G.cls c' = some cd' ∧ getM m cd'.meths = some f' ∧ R f') = R f := by
  refine propext ⟨fun ⟨p', c', fs', cd', f', e1, e2, e3, e4, q⟩ => ?_, fun q => ⟨p, c, fs, cd, f, rfl, e, hc, hm, q⟩⟩
  cases e1
  rw [e] at e2; cases e2
  rw [hc] at e3; cases e3
  rw [hm] at e4; cases e4
  exact q
end
section
variable {h : PH} {p : Nat} {kvs : List (PV × PV)} {k z : PV}
theorem ty_dic (e : h[p]? = some (.dic kvs)) : tyN h (.ref p) = some "dict" := by
  unfold tyN; dsimp only; rw [e]
/-- d.get(k, z) -/
theorem ex_dget {R : List (PV × PV) → Prop} (e : h[p]? = some (.dic kvs)) (hk : isK k = true) : (∃ p' kvs', PV.ref p = .ref p' ∧ h[p']? = some (.dic kvs') ∧ isK k = true ∧ R kvs') = R kvs := by
  refine propext ⟨fun ⟨p', kvs', e1, e2, _, q⟩ => ?_, fun q => ⟨p, kvs, rfl, e, hk, q⟩⟩
  cases e1
  rw [e] at e2; cases e2
  exact q
/-- d[k] = z -/
theorem put_dic {Q : PH → Prop} (e : h[p]? = some (.dic kvs)) (hk : isK k = true) (hl : kvs.length < SZ) : putV (.ref p) k z h Q = Q (h.set p (.dic (putD k z kvs))) := by
  unfold putV; dsimp only; rw [e]; dsimp only
  exact propext ⟨fun q => q.2.2, fun q => ⟨hk, hl, q⟩⟩
/-- xs[i] = z -/
theorem put_lst {Q : PH → Prop} {xs : List PV} {i : Int} {j : Nat} (e : h[p]? = some (.lst xs)) (hj : ixN xs.length i = some j) : putV (.ref p) (.int i) z h Q = Q (h.set p (.lst (xs.set j z))) := by
  unfold putV; dsimp only; rw [e]; dsimp only
  refine propext ⟨fun ⟨a, b, c, d, q⟩ => ?_, fun q => ⟨i, j, rfl, hj, q⟩⟩
  cases c; rw [hj] at d; cases d; exact q
end
/-! ### what stays -/
/-- h' is h, but for the objects of D, and longer -/
structure Stays (D : List Nat) (h h' : PH) : Prop where
  le : h.length ≤ h'.length
  at_ : ∀ a o, a ∉ D → h[a]? = some o → h'[a]? = some o
theorem Stays.refl {D : List Nat} {h : PH} : Stays D h h := ⟨Nat.le_refl _, fun _ _ _ e => e⟩
theorem Stays.trans {D : List Nat} {h h1 h2 : PH} (a : Stays D h h1) (b : Stays D h1 h2) : Stays D h h2 := ⟨Nat.le_trans a.le b.le, fun x o n e => b.at_ x o n (a.at_ x o n e)⟩
theorem Stays.mono {D D' : List Nat} {h h1 : PH} (a : Stays D h h1) (s : ∀ x ∈ D, x ∈ D') : Stays D' h h1 := ⟨a.le, fun x o n e => a.at_ x o (fun z => n (s x z)) e⟩
theorem Stays.app {D : List Nat} {h t : PH} : Stays D h (h ++ t) := ⟨by simp, fun a o _ e => by rw [List.getElem?_append_left (List.getElem?_eq_some_iff.mp e).1]; exact e⟩
theorem Stays.set {D : List Nat} {h : PH} {p : Nat} {o : PO} (m : p ∈ D) : Stays D h (h.set p o) := ⟨by simp, fun a u n e => by
  rw [List.getElem?_set_ne (show p ≠ a from fun z => n (by rw [← z]; exact m))]; exact e⟩
/-- an object that is new stays out of the way -/
theorem Stays.set_new {D : List Nat} {h h1 : PH} {p : Nat} {o : PO} (s : Stays D h h1) (n : h.length ≤ p) : Stays D h (h1.set p o) := ⟨by simpa using s.le, fun a u na e => by
  have := (List.getElem?_eq_some_iff.mp e).1
  rw [List.getElem?_set_ne (by omega)]; exact s.at_ a u na e⟩
theorem Stays.lst {D : List Nat} {h h1 : PH} {a : Nat} {xs : List PV} (s : Stays D h h1) (n : a ∉ D) (e : lstOf h (.ref a) = some xs) : lstOf h1 (.ref a) = some xs := by
  unfold lstOf at e ⊢
  dsimp only at e ⊢
  cases q : h[a]? with
  | none => rw [q] at e; cases e
  | some o => rw [s.at_ a o n q]; rw [q] at e; exact e

theorem get_app {h t : PH} {p : Nat} {o : PO} (e : h[p]? = some o) : (h ++ t)[p]? = some o := by
  rw [List.getElem?_append_left (List.getElem?_eq_some_iff.mp e).1]; exact e
theorem lst_got {h : PH} {p : Nat} {xs : List PV} (e : h[p]? = some (.lst xs)) : lstOf h (.ref p) = some xs := by
  unfold lstOf; dsimp only; rw [e]
end Py

set_option Elab.async false
set_option linter.all false
set_option maxRecDepth 100000
set_option maxHeartbeats 4000000
/-! PyLaw4: loops by turns, equality and repr of lists. -/
namespace Py
open PySem
theorem iter_invN {live : PH → Prop} {body : PV → Loc → PH → (Loc → PH → Prop) → Prop} {fin : Loc → PH → Prop} (Inv : Nat → Loc → PH → Prop) (hl : ∀ i l h, Inv i l h → live h) :
    ∀ (xs : List PV) (b : Nat), (∀ i x, xs[i]? = some x → ∀ l h K, Inv (b + i) l h → (∀ l' h', Inv (b + i + 1) l' h' → K l' h') → body x l h K) → (∀ l h, Inv (b + xs.length) l h → fin l h) → ∀ l h, Inv b l h → iterL live body fin xs l h
  | [], b, _, hf, l, h, i => ⟨hl b l h i, hf l h i⟩
  | x :: r, b, hb, hf, l, h, i => ⟨hl b l h i, hb 0 x rfl l h _ i fun l' h' i' => iter_invN Inv hl r (b + 1) (fun j y hy l h K iv hK => hb (j + 1) y (by simpa using hy) l h K (by rw [show b + (j + 1) = b + 1 + j by omega]; exact iv) (by rw [show b + (j + 1) + 1 = b + 1 + j + 1 by omega]; exact hK))
      (fun l h iv => hf l h (by rw [List.length_cons, show b + (r.length + 1) = b + 1 + r.length by omega]; exact iv)) l' h' i'⟩
theorem ty_get {h : PH} {p : Nat} {xs : List PV} (e : h[p]? = some (.lst xs)) : tyN h (.ref p) = some "list" := by
  unfold tyN; dsimp only; rw [e]
theorem lstOf_set {h : PH} {a p : Nat} {o : PO} (n : a ≠ p) : lstOf (h.set p o) (.ref a) = lstOf h (.ref a) := by
  unfold lstOf; dsimp only; rw [List.getElem?_set_ne (Ne.symm n)]
theorem lstOf_lt {h : PH} {a : Nat} {xs : List PV} (e : lstOf h (.ref a) = some xs) : a < h.length := by
  unfold lstOf at e; dsimp only at e
  cases q : h[a]? with
  | none => rw [q] at e; cases e
  | some o => exact (List.getElem?_eq_some_iff.mp q).1
mutual
theorem eqv_self : ∀ d : PyData, d.canLay0 = true → PyData.eqv d d = true
  | .none, _ => rfl
  | .bool b, _ => by cases b <;> rfl
  | .int i, _ => beq_self_eq_true i
  | .str x, _ => beq_self_eq_true x
  | .list xs, h => eqvs_self xs h
  | .tuple xs, h => eqvs_self xs h
  | .dict _, h => by cases h
theorem eqvs_self : ∀ d : List PyData, PyData.canLayAll0 d = true → PyData.eqvAll d d = true
  | [], _ => rfl
  | x :: xs, h => by
    obtain ⟨a, b⟩ := Bool.and_eq_true_iff.mp (show (PyData.canLay0 x && PyData.canLayAll0 xs) = true from h)
    show (PyData.eqv x x && PyData.eqvAll xs xs) = true
    rw [eqv_self x a, eqvs_self xs b]; rfl
end
/-- flat lists side by side -/
theorem eq_lists {a b : Nat} {xs ys : List PV} {h : PH} {Q : Bool → PH → Prop} (ha : lstOf h (.ref a) = some xs) (hb : lstOf h (.ref b) = some ys) (f1 : flats xs = true) (f2 : flats ys = true) (s1 : SeqAt.shaped (.list (dats xs)) = true) (s2 : SeqAt.shaped (.list (dats ys)) = true)
    (q : Q (PyData.eqvAll (dats xs) (dats ys)) h) : cmpV .eq (.ref a) (.ref b) h Q :=
  .inl ⟨.list (dats xs), .list (dats ys), ⟨xs, ha, Dats_dats xs f1⟩, ⟨ys, hb, Dats_dats ys f2⟩, s1, s2, q⟩
theorem ne_lists {a b : Nat} {xs ys : List PV} {h : PH} {Q : Bool → PH → Prop} (ha : lstOf h (.ref a) = some xs) (hb : lstOf h (.ref b) = some ys) (f1 : flats xs = true) (f2 : flats ys = true) (s1 : SeqAt.shaped (.list (dats xs)) = true) (s2 : SeqAt.shaped (.list (dats ys)) = true)
    (q : Q (!PyData.eqvAll (dats xs) (dats ys)) h) : cmpV .ne (.ref a) (.ref b) h Q :=
  .inl ⟨.list (dats xs), .list (dats ys), ⟨xs, ha, Dats_dats xs f1⟩, ⟨ys, hb, Dats_dats ys f2⟩, s1, s2, q⟩
theorem eq_nil {a b : Nat} {xs : List PV} {h : PH} {Q : Bool → PH → Prop} (ha : lstOf h (.ref a) = some xs) (hb : lstOf h (.ref b) = some []) (q : Q xs.isEmpty h) : cmpV .eq (.ref a) (.ref b) h Q := by
  cases xs with
  | nil => exact eq_lists ha hb rfl rfl rfl rfl q
  | cons x r => exact .inr ⟨a, b, _, _, rfl, rfl, ha, hb, by simp, q⟩
theorem ne_nil {a b : Nat} {xs : List PV} {h : PH} {Q : Bool → PH → Prop} (ha : lstOf h (.ref a) = some xs) (hb : lstOf h (.ref b) = some []) (q : Q (!xs.isEmpty) h) : cmpV .ne (.ref a) (.ref b) h Q := by
  cases xs with
  | nil => exact ne_lists ha hb rfl rfl rfl rfl q
  | cons x r => exact .inr ⟨a, b, _, _, rfl, rfl, ha, hb, by simp, q⟩
theorem s_reprL {n c k a : Nat} {xs : List PV} {h : PH} {Q : KQ} (e : lstOf h (.ref a) = some xs) (r : ∀ x ∈ xs, Rp n c x) (hk : xs.length ≤ k) (hn : n ≤ 63) (hc : (c + 2) * k + 3 ≤ 16777216) (q : Q (.str (PyData.list (dats xs)).shown) h) : bfV .repr1 [.ref a] h Q := by
  obtain ⟨a1, b, c', d, e', f⟩ := Rps r
  have sh : SeqAt.shaped (.list (dats xs)) = true := by
    unfold SeqAt.shaped
    show (PyData.canLayAll0 (dats xs) && decide (PyData.depthAll (dats xs) + 1 ≤ 64)) = true
    rw [b, decide_eq_true (show PyData.depthAll (dats xs) + 1 ≤ 64 by omega)]; rfl
  refine ⟨.list (dats xs), rfl, ⟨xs, e, Dats_dats xs a1⟩, sh, d, ?_, q⟩
  have t := listText_len_le (PyData.shownAll (dats xs))
  show (listText (PyData.shownAll (dats xs))).length ≤ _
  rw [f] at t
  have h1 : c * xs.length ≤ c * k := Nat.mul_le_mul_left _ hk
  have h2 : (c + 2) * k = c * k + 2 * k := Nat.add_mul _ _ _
  show _ ≤ 16777216
  omega
/-- what repr takes may be compared -/
theorem shaped_rps {n c : Nat} {xs : List PV} (r : ∀ x ∈ xs, Rp n c x) (hn : n ≤ 63) : SeqAt.shaped (.list (dats xs)) = true := by
  obtain ⟨a1, b, c', d, e', f⟩ := Rps r
  unfold SeqAt.shaped
  show (PyData.canLayAll0 (dats xs) && decide (PyData.depthAll (dats xs) + 1 ≤ 64)) = true
  rw [b, decide_eq_true (show PyData.depthAll (dats xs) + 1 ≤ 64 by omega)]; rfl
end Py

set_option Elab.async false
set_option linter.all false
set_option maxRecDepth 100000
set_option maxHeartbeats 4000000
/-! PyStep: a def stepped through, statement by statement; each change gives a heap of its own name. -/
namespace Py
open PySem
/-- one object put for -/
structure Up (h : PH) (p : Nat) (o : PO) (h' : PH) : Prop where
  len : h'.length = h.length
  at_ : h'[p]? = some o
  ne : ∀ a, a ≠ p → h'[a]? = h[a]?
/-- one object more -/
structure Nw (h : PH) (o : PO) (h' : PH) : Prop where
  len : h'.length = h.length + 1
  at_ : h'[h.length]? = some o
  old : ∀ a, a < h.length → h'[a]? = h[a]?
theorem Up.of {h : PH} {p : Nat} {o u : PO} (e : h[p]? = some u) : Up h p o (h.set p o) :=
  ⟨by simp, List.getElem?_set_self (List.getElem?_eq_some_iff.mp e).1, fun a n => List.getElem?_set_ne (Ne.symm n)⟩
theorem Nw.of {h : PH} {o : PO} : Nw h o (h ++ [o]) := ⟨by simp, get_new, fun a l => List.getElem?_append_left l⟩
theorem Up.stays {h h' : PH} {p : Nat} {o : PO} {D : List Nat} (u : Up h p o h') (m : p ∈ D) : Stays D h h' := ⟨Nat.le_of_eq u.len.symm, fun a o' n e => by rw [u.ne a fun z => n (z ▸ m)]; exact e⟩
theorem Nw.stays {h h' : PH} {o : PO} {D : List Nat} (u : Nw h o h') : Stays D h h' := ⟨by rw [u.len]; omega, fun a o' n e => by rw [u.old a (List.getElem?_eq_some_iff.mp e).1]; exact e⟩
theorem lt_of {h : PH} {a : Nat} {o : PO} (e : h[a]? = some o) : a < h.length := (List.getElem?_eq_some_iff.mp e).1
theorem Up.get {h h' : PH} {p a : Nat} {o u : PO} (x : Up h p o h') (n : a ≠ p) (e : h[a]? = some u) : h'[a]? = some u := (x.ne a n).trans e
theorem Nw.get {h h' : PH} {a : Nat} {o u : PO} (x : Nw h o h') (e : h[a]? = some u) : h'[a]? = some u := (x.old a (lt_of e)).trans e
/-- nothing that stood is changed -/
abbrev Gr (h h' : PH) : Prop := Stays [] h h'
theorem Gr.get {h h' : PH} {a : Nat} {o : PO} (s : Gr h h') (e : h[a]? = some o) : h'[a]? = some o := s.at_ a o (by simp) e
theorem Gr.stays {h h' : PH} {D : List Nat} (s : Gr h h') : Stays D h h' := s.mono (by simp)
/-- what was changed was new -/
theorem Stays.gr {h h1 h2 : PH} {D : List Nat} (g : Gr h h1) (s : Stays D h1 h2) (n : ∀ a ∈ D, h.length ≤ a) : Gr h h2 :=
  ⟨Nat.le_trans g.le s.le, fun a o _ e => s.at_ a o (fun m => absurd (lt_of e) (Nat.not_lt.mpr (n a m))) (g.get e)⟩
def fld (G : Sig) (c f : Nat) : Bool := match G.cls c with
  | some cd => cd.fields.contains f
  | none => false
def mth (G : Sig) (c m : Nat) : Option Nat := match G.cls c with
  | some cd => getM m cd.meths
  | none => none
theorem fld_ok {G : Sig} {c f : Nat} (h : fld G c f = true) : ∃ cd, G.cls c = some cd ∧ cd.fields.contains f = true := by
  unfold fld at h
  split at h
  · exact ⟨_, by assumption, h⟩
  · cases h
theorem mth_ok {G : Sig} {c m f : Nat} (h : mth G c m = some f) : ∃ cd, G.cls c = some cd ∧ getM m cd.meths = some f := by
  unfold mth at h
  split at h
  · exact ⟨_, by assumption, h⟩
  · cases h
section
variable {G : Sig} {k : Nat} {X : KX} {l : Loc} {h : PH} {Q : KQ} {D : En} {b : B}
theorem cs_le (G : Sig) (k : Nat) : CSle (callS G k) (callS G k) := callS_le k k (Nat.le_refl k)
theorem mE_ {e : E} {Q' : KQ} (q : evE G (callS G k) X e l h Q') (c : ∀ v h1, Q' v h1 → Q v h1) : evE G (callS G k) X e l h Q := evE_mono (cs_le G k) (fun _ _ z => z) e l h _ _ c q
theorem mEs_ {e : Es} {Q' R : List PV → PH → Prop} (q : evEs G (callS G k) X e l h Q') (c : ∀ v h1, Q' v h1 → R v h1) : evEs G (callS G k) X e l h R := evEs_mono (cs_le G k) (fun _ _ z => z) e l h _ _ c q
theorem mT_ {e : C} {Q' R : Bool → PH → Prop} (q : evT G (callS G k) X e l h Q') (c : ∀ v h1, Q' v h1 → R v h1) : evT G (callS G k) X e l h R := evT_mono (cs_le G k) (fun _ _ z => z) e l h _ _ c q
/-! ### expressions -/
theorem xV {i : Nat} {v : PV} (e : l[i]? = some (some v)) (q : Q v h) : evE G (callS G k) X (.var i) l h Q := ⟨v, e, q⟩
theorem xI {i : Int} (q : Q (.int i) h) : evE G (callS G k) X (.int i) l h Q := q
theorem xS {s : Str} (q : Q (.str s) h) : evE G (callS G k) X (.str s) l h Q := q
theorem xB {s : Bool} (q : Q (.bl s) h) : evE G (callS G k) X (.bl s) l h Q := q
theorem xN (q : Q .non h) : evE G (callS G k) X .non l h Q := q
theorem xG {g : Nat} {v : PV} (e : G.con g = some v) (q : Q v h) : evE G (callS G k) X (.glob g) l h Q := ⟨v, e, q⟩
theorem xBin {o : BO} {a c : E} (q : evE G (callS G k) X a l h fun x h1 => evE G (callS G k) X c l h1 fun y h2 => binV o x y h2 Q) : evE G (callS G k) X (.bin o a c) l h Q := q
theorem xNeg {a : E} {i : Int} (q : evE G (callS G k) X a l h fun x h1 => x = .int i ∧ Q (.int (-i)) h1) : evE G (callS G k) X (.neg a) l h Q := by
  show evE G (callS G k) X a l h _
  exact mE_ q fun _ _ q => ⟨i, q.1, q.2⟩
theorem xNt {a : E} {b : Bool} (q : evE G (callS G k) X a l h fun x h1 => x = .bl b ∧ Q (.bl (!b)) h1) : evE G (callS G k) X (.nt a) l h Q := by
  show evE G (callS G k) X a l h _
  exact mE_ q fun _ _ q => ⟨b, q.1, q.2⟩
theorem xCmp {o : CO} {a c : E} (q : evE G (callS G k) X a l h fun x h1 => evE G (callS G k) X c l h1 fun y h2 => cmpV o x y h2 fun r h3 => Q (.bl r) h3) : evE G (callS G k) X (.cmp o a c) l h Q := q
theorem xIte {c : C} {a d : E} (q : evT G (callS G k) X c l h fun r h1 => if r = true then evE G (callS G k) X a l h1 Q else evE G (callS G k) X d l h1 Q) : evE G (callS G k) X (.ite c a d) l h Q := q
theorem xTup {es : Es} (q : evEs G (callS G k) X es l h fun xs h1 => xs.length ≤ SZ ∧ Q (.tup xs) h1) : evE G (callS G k) X (.tup es) l h Q := q
theorem xLst {es : Es} (q : evEs G (callS G k) X es l h fun xs h1 => xs.length ≤ SZ ∧ ∀ h2, Nw h1 (.lst xs) h2 → Q (.ref h1.length) h2) : evE G (callS G k) X (.lst es) l h Q := mEs_ q fun xs h1 q => ⟨q.1, q.2 _ Nw.of⟩
theorem xDic0 (q : ∀ h2, Nw h (.dic []) h2 → Q (.ref h.length) h2) : evE G (callS G k) X .dic0 l h Q := q _ Nw.of
theorem xIdx {a c : E} (q : evE G (callS G k) X a l h fun x h1 => evE G (callS G k) X c l h1 fun y h2 => idxV x y h2 Q) : evE G (callS G k) X (.idx a c) l h Q := q
theorem xSlc {a : E} {lo hi : OE} (q : evE G (callS G k) X a l h fun x h1 => evO G (callS G k) X lo l h1 fun u h2 => evO G (callS G k) X hi l h2 fun w h3 => slcV x u w h3 Q) : evE G (callS G k) X (.slc a lo hi) l h Q := q
theorem xON {R : Option Int → PH → Prop} (q : R none h) : evO G (callS G k) X .no l h R := q
theorem xOS {e : E} {R : Option Int → PH → Prop} {i : Int} (q : evE G (callS G k) X e l h fun x h1 => x = .int i ∧ R (some i) h1) : evO G (callS G k) X (.so e) l h R := mE_ q fun _ _ q => ⟨i, q.1, q.2⟩
/-- a field -/
theorem xAt {o : E} {f : Nat} (q : evE G (callS G k) X o l h fun x h1 => ∃ p c fs v, x = .ref p ∧ h1[p]? = some (.ins c fs) ∧ fld G c f = true ∧ getN f fs = some v ∧ Q v h1) : evE G (callS G k) X (.attr o f) l h Q := by
  show evE G (callS G k) X o l h _
  refine mE_ q fun x h1 q => ?_
  obtain ⟨p, c, fs, v, a1, a2, a3, a4, q⟩ := q
  obtain ⟨cd, b1, b2⟩ := fld_ok a3
  exact ⟨p, c, fs, v, cd, a1, a2, b1, b2, a4, q⟩
theorem xAtV {i f p c : Nat} {fs : List (Nat × PV)} {v : PV} (e : l[i]? = some (some (.ref p))) (a2 : h[p]? = some (.ins c fs)) (a3 : fld G c f = true) (a4 : getN f fs = some v) (q : Q v h) : evE G (callS G k) X (.attr (.var i) f) l h Q := xAt (xV e ⟨p, c, fs, v, rfl, a2, a3, a4, q⟩)
theorem xCall {f : Nat} {es : Es} (q : evEs G (callS G k) X es l h fun xs h1 => callS G k (.fn f) xs h1 Q X) : evE G (callS G k) X (.call f es) l h Q := q
theorem xMk {c : Nat} {es : Es} (q : evEs G (callS G k) X es l h fun xs h1 => callS G k (.mk c) xs h1 Q X) : evE G (callS G k) X (.mk c es) l h Q := q
theorem xMk0 {c : Nat} {cd : CD} (e : G.cls c = some cd) (e2 : cd.bare = true) (q : ∀ h2, Nw h (.ins c []) h2 → Q (.ref h.length) h2) : evE G (callS G k) X (.mk0 c) l h Q := ⟨cd, e, e2, q _ Nw.of⟩
/-- a method -/
theorem xMt {o : E} {m : Nat} {es : Es} (q : evE G (callS G k) X o l h fun x h1 => ∃ p c fs f, x = .ref p ∧ h1[p]? = some (.ins c fs) ∧ mth G c m = some f ∧ evEs G (callS G k) X es l h1 fun xs h2 => callS G k (.fn f) (x :: xs) h2 Q X) : evE G (callS G k) X (.meth o m es) l h Q := by
  show evE G (callS G k) X o l h _
  refine mE_ q fun x h1 q => ?_
  obtain ⟨p, c, fs, f, a1, a2, a3, q⟩ := q
  obtain ⟨cd, b1, b2⟩ := mth_ok a3
  exact ⟨p, c, fs, cd, f, a1, a2, b1, b2, q⟩
theorem xIni {c : Nat} {cd : CD} {es : Es} (e : G.cls c = some cd) (q : evEs G (callS G k) X es l h fun xs h1 => callS G k (.fn cd.init) xs h1 Q X) : evE G (callS G k) X (.ini c es) l h Q := ⟨cd, e, q⟩
theorem xIsi {f : BF} {a : E} {t : String} (q : evE G (callS G k) X a l h fun x h1 => tyN h1 x = some t ∧ Q (.bl (isB (tyOf f) t)) h1) : evE G (callS G k) X (.isi f a) l h Q := by
  show evE G (callS G k) X a l h _
  exact mE_ q fun _ _ q => ⟨t, q.1, q.2⟩
theorem xBf {f : BF} {es : Es} (q : evEs G (callS G k) X es l h fun xs h1 => bfV f xs h1 Q) : evE G (callS G k) X (.bf f es) l h Q := q
theorem xBm {m : BM} {o : E} {es : Es} (q : evE G (callS G k) X o l h fun x h1 => tyN h1 x = some (bmT m) ∧ evEs G (callS G k) X es l h1 fun xs h2 => bmV m x xs h2 Q) : evE G (callS G k) X (.bm m o es) l h Q := q
theorem aN {R : List PV → PH → Prop} (q : R [] h) : evEs G (callS G k) X .nil l h R := q
theorem aC {e : E} {es : Es} {R : List PV → PH → Prop} (q : evE G (callS G k) X e l h fun x h1 => evEs G (callS G k) X es l h1 fun xs h2 => R (x :: xs) h2) : evEs G (callS G k) X (.cons e es) l h R := q
theorem a1 {e : E} {R : List PV → PH → Prop} (q : evE G (callS G k) X e l h fun x h1 => R [x] h1) : evEs G (callS G k) X (.cons e .nil) l h R := q
/-! ### tests -/
theorem tV {e : E} {R : Bool → PH → Prop} {r : Bool} (q : evE G (callS G k) X e l h fun x h1 => truV h1 x = some r ∧ R r h1) : evT G (callS G k) X (.v e) l h R := mE_ q fun _ _ q => ⟨r, q.1, q.2⟩
theorem tC {o : CO} {a c : E} {R : Bool → PH → Prop} (q : evE G (callS G k) X a l h fun x h1 => evE G (callS G k) X c l h1 fun y h2 => cmpV o x y h2 R) : evT G (callS G k) X (.cmp o a c) l h R := q
theorem tNt {c : C} {R : Bool → PH → Prop} (q : evT G (callS G k) X c l h fun r h1 => R (!r) h1) : evT G (callS G k) X (.nt c) l h R := q
theorem cEqS {a c : String} {R : Bool → PH → Prop} (q : R (decide (a = c)) h) : cmpV .eq (.str (Str.ofString a)) (.str (Str.ofString c)) h R := by rw [eq_lit]; exact q
theorem cEqT {a c : Str} {R : Bool → PH → Prop} (q : R (decide (a = c)) h) : cmpV .eq (.str a) (.str c) h R := q
theorem cIsN {x : PV} {R : Bool → PH → Prop} (q : R (isNonB x) h) : cmpV .isN x .non h R := q
theorem cNtN {x : PV} {R : Bool → PH → Prop} (q : R (!isNonB x) h) : cmpV .notN x .non h R := q
theorem cEqI {a c : Int} {R : Bool → PH → Prop} (q : R (decide (a = c)) h) : cmpV .eq (.int a) (.int c) h R := by rw [eq_int]; exact q
/-! ### statements -/
theorem sE_ {e : E} (q : evE G (callS G k) (fun x h' => D.ex x l h') e l h fun _ h1 => evB G (callS G k) b l h1 D) : evB G (callS G k) (.cons (.exp e) b) l h D := q
theorem sAs {i : Nat} {e : E} (hi : i < l.length) (q : evE G (callS G k) (fun x h' => D.ex x l h') e l h fun v h1 => evB G (callS G k) b (l.set i (some v)) h1 D) : evB G (callS G k) (.cons (.asg (.nm i) e) b) l h D :=
  evE_mono (cs_le G k) (fun _ _ z => z) e l h _ _ (fun v h1 q => ⟨hi, q⟩) q
/-- x, y, .. = e -/
theorem sAT {ts : Ts} {e : E} {xs : List PV} (q : evE G (callS G k) (fun x h' => D.ex x l h') e l h fun v h1 => seqOf h1 v = some xs ∧ xs.length = lenTs ts ∧ evGs G (callS G k) (fun x h' => D.ex x l h') ts xs l h1 fun l' h' => evB G (callS G k) b l' h' D) : evB G (callS G k) (.cons (.asg (.tup ts) e) b) l h D :=
  evE_mono (cs_le G k) (fun _ _ z => z) e l h _ _ (fun v h1 q => ⟨xs, q.1, q.2.1, q.2.2⟩) q
/-- x.f = e -/
theorem sF {i f p : Nat} {e : E} (hi : l[i]? = some (some (.ref p))) (q : evE G (callS G k) (fun x h' => D.ex x l h') e l h fun v h1 => ∃ c fs, h1[p]? = some (.ins c fs) ∧ fld G c f = true ∧ fs.length < 900 ∧ ∀ h2, Up h1 p (.ins c (putN f v fs)) h2 → evB G (callS G k) b l h2 D) : evB G (callS G k) (.cons (.asg (.attr (.var i) f) e) b) l h D :=
  evE_mono (cs_le G k) (fun _ _ z => z) e l h _ _ (fun v h1 q => by
    obtain ⟨c, fs, a1, a2, a3, q⟩ := q
    obtain ⟨cd, b1, b2⟩ := fld_ok a2
    exact ⟨.ref p, hi, p, c, fs, cd, rfl, a1, b1, b2, a3, q _ (Up.of a1)⟩) q
/-- x.f += e -/
theorem sFA {i f p c : Nat} {fs : List (Nat × PV)} {o : BO} {e : E} {v : PV} (hi : l[i]? = some (some (.ref p))) (e1 : h[p]? = some (.ins c fs)) (hf : fld G c f = true) (hg : getN f fs = some v) (hl : fs.length < 900)
    (q : evE G (callS G k) (fun x h' => D.ex x l h') e l h fun y h2 => augV o v y h2 fun z h3 => h3[p]? = some (.ins c fs) ∧ ∀ h4, Up h3 p (.ins c (putN f z fs)) h4 → evB G (callS G k) b l h4 D) : evB G (callS G k) (.cons (.augF (.var i) f o e) b) l h D := by
  obtain ⟨cd, b1, b2⟩ := fld_ok hf
  exact ⟨.ref p, hi, p, c, fs, v, cd, rfl, e1, b1, b2, hg, evE_mono (cs_le G k) (fun _ _ z => z) e l h _ _ (fun y h2 q => augV_mono (fun z h3 q => ⟨fs, q.1, hl, q.2 _ (Up.of q.1)⟩) q) q⟩
/-- x[i] = e -/
theorem sSub {o i e : E} (q : evE G (callS G k) (fun x h' => D.ex x l h') e l h fun v h1 => evE G (callS G k) (fun x h' => D.ex x l h') o l h1 fun x h2 => evE G (callS G k) (fun x h' => D.ex x l h') i l h2 fun y h3 => putV x y v h3 fun h4 => evB G (callS G k) b l h4 D) : evB G (callS G k) (.cons (.asg (.sub o i) e) b) l h D := q
theorem sR {e : E} (q : evE G (callS G k) (fun x h' => D.ex x l h') e l h D.rt) : evB G (callS G k) (.cons (.ret e) b) l h D := q
theorem sRN (q : D.rt .non h) : evB G (callS G k) (.cons .retN b) l h D := q
theorem sEnd (q : D.nx l h) : evB G (callS G k) .nil l h D := q
/-- a branch by its test -/
theorem sIf {c : C} {a d : B} {r : Bool} (q : evT G (callS G k) (fun x h' => D.ex x l h') c l h fun r' h1 => r' = r ∧ evB G (callS G k) (cond r a d) l h1 { D with nx := fun l' h' => evB G (callS G k) b l' h' D }) : evB G (callS G k) (.cons (.ife c a d) b) l h D := by
  refine evT_mono (cs_le G k) (fun _ _ z => z) c l h _ _ (fun r' h1 q => ?_) q
  obtain ⟨rfl, q⟩ := q
  cases r' <;> exact q
theorem sWhl {c : C} {d : B} (n : Nat) (q : whlN (fun l' h' K => evT G (callS G k) (fun x h' => D.ex x l' h') c l' h' fun r h1 => if r = true then evB G (callS G k) d l' h1 { D with nx := K, ct := K } else evB G (callS G k) b l' h1 D) n l h) : evB G (callS G k) (.cons (.whl c d) b) l h D := ⟨n, q⟩
theorem sFor {t : T} {it : I} {d : B} (q : evI G (callS G k) (fun x h' => D.ex x l h') it l h fun items live h1 =>
      iterL live (fun v l' h' K => evG G (callS G k) (fun x h' => D.ex x l' h') t v l' h' fun l2 h2 => evB G (callS G k) d l2 h2 { D with nx := K, ct := K }) (fun l' h' => evB G (callS G k) b l' h' D) items l h1) : evB G (callS G k) (.cons (.for t it d) b) l h D := q
theorem iSeq {e : E} {R : KI} {xs : List PV} (q : evE G (callS G k) X e l h fun x h1 => itemsOf h1 x = some xs ∧ R xs (liveL x xs) h1) : evI G (callS G k) X (.seq e) l h R := mE_ q fun x h1 q => ⟨xs, q.1, q.2⟩
/-- a call -/
theorem xFn {f : Nat} {d : FD} {args : List PV} (e : G.fn f = some d) (l' : args.length = d.np) (q : evB G (callS G k) d.body (startL d args) h ⟨fun _ h' => Q .non h', Q, fun _ _ => False, fun x _ h' => X x h'⟩) : callS G (k + 1) (.fn f) args h Q X := by
  rw [call_in e l']; exact q
theorem xNew {c : Nat} {cd : CD} {args : List PV} (e : G.cls c = some cd) (q : ∀ h1, Nw h (.ins c []) h1 → callS G k (.fn cd.init) (.ref h.length :: args) h1 (fun v h' => v = .non ∧ Q (.ref h.length) h') X) : callS G (k + 1) (.mk c) args h Q X := ⟨cd, e, q _ Nw.of⟩
theorem cM {f : FR} {args : List PV} {Q' : KQ} (q : callS G k f args h Q' X) (c : ∀ v h1, Q' v h1 → Q v h1) : callS G k f args h Q X := callS_mono c (fun _ _ z => z) q
/-! ### comprehensions -/
theorem comp_inv {live : PH → Prop} {d : Nat} {body : PV → PH → (Option PV → PH → Prop) → Prop} {fin : PH → Prop} (Inv : Nat → List PV → PH → Prop) (hl : ∀ i acc h, Inv i acc h → live h) :
    ∀ (xs : List PV) (b : Nat) (acc : List PV) (h : PH), Inv b acc h → h[d]? = some (.lst acc) → acc.length + xs.length ≤ SZ →
      (∀ (i : Nat) (x : PV) (acc : List PV) (h : PH) (K : Option PV → PH → Prop), xs[i]? = some x → Inv (b + i) acc h → h[d]? = some (.lst acc) →
        (∀ (y : PV) (h' : PH), h'[d]? = some (.lst acc) → (∀ h2, Up h' d (.lst (acc ++ [y])) h2 → Inv (b + i + 1) (acc ++ [y]) h2) → K (some y) h') → (∀ h', h'[d]? = some (.lst acc) → Inv (b + i + 1) acc h' → K none h') → body x h K) →
      (∀ acc h, Inv (b + xs.length) acc h → h[d]? = some (.lst acc) → fin h) → compL live d body fin xs h
  | [], b, acc, h, i0, e, z, hb, hf => ⟨hl _ _ _ i0, hf acc h i0 e⟩
  | x :: r, b, acc, h, i0, e, z, hb, hf => by
    have rest : ∀ (acc' : List PV) (h' : PH), Inv (b + 1) acc' h' → h'[d]? = some (.lst acc') → acc'.length ≤ acc.length + 1 → compL live d body fin r h' := fun acc' h' i1 e1 z1 => by
      refine comp_inv Inv hl r (b + 1) acc' h' i1 e1 (by simp at z; omega) (fun i y a h2 K hy iv ea c1 c2 => hb (i + 1) y a h2 K (by simpa using hy) (by rw [show b + (i + 1) = b + 1 + i by omega]; exact iv) ea (by rw [show b + (i + 1) + 1 = b + 1 + i + 1 by omega]; exact c1) (by rw [show b + (i + 1) + 1 = b + 1 + i + 1 by omega]; exact c2)) (fun a h2 iv => hf a h2 (by rw [List.length_cons, show b + (r.length + 1) = b + 1 + r.length by omega]; exact iv))
    refine ⟨hl _ _ _ i0, hb 0 x acc h _ rfl i0 e (fun y h' e' c => ?_) fun h' e' iv => rest acc h' iv e' (by omega)⟩
    exact ⟨acc, e', by simp at z; omega, rest _ _ (c _ (Up.of e')) (Up.of e').at_ (by simp)⟩
theorem xLc {elt : E} {i : Nat} {it : I} (hi : i < l.length) (q : evI G (callS G k) X it l h fun items live h1 => ∀ h2, Nw h1 (.lst []) h2 →
      compL live h1.length (fun x h2 K => evE G (callS G k) (fun _ _ => False) elt ((l.set i none).set i (some x)) h2 fun y h5 => K (some y) h5) (fun h2 => Q (.ref h1.length) h2) items h2) : evE G (callS G k) X (.lc elt (.nm i) it .no) l h Q := by
  refine evI_mono (cs_le G k) (fun _ _ z => z) it l h _ _ (fun items live h1 q => ?_) q
  refine compL_mono (fun x h2 R R' kR q => ?_) (fun _ z => z) items _ (q _ Nw.of)
  exact ⟨by simp [wipeL, tNs]; exact hi, evE_mono (cs_le G k) (fun _ _ z => z) elt _ h2 _ _ (fun y h5 q => kR _ _ q) q⟩
theorem xLcG {elt : E} {t : T} {it : I} (q : evI G (callS G k) X it l h fun items live h1 => ∀ h2, Nw h1 (.lst []) h2 →
      compL live h1.length (fun x h2 K => evG G (callS G k) (fun _ _ => False) t x (wipeL l (tNs t)) h2 fun l' h3 => evE G (callS G k) (fun _ _ => False) elt l' h3 fun y h5 => K (some y) h5) (fun h2 => Q (.ref h1.length) h2) items h2) : evE G (callS G k) X (.lc elt t it .no) l h Q := by
  refine evI_mono (cs_le G k) (fun _ _ z => z) it l h _ _ (fun items live h1 q => ?_) q
  refine compL_mono (fun x h2 R R' kR q => ?_) (fun _ z => z) items _ (q _ Nw.of)
  exact evG_mono (cs_le G k) (fun _ _ z => z) t x _ h2 _ _ (fun l' h3 q => evE_mono (cs_le G k) (fun _ _ z => z) elt l' h3 _ _ (fun y h5 q => kR _ _ q) q) q
theorem iZip {a c : E} {R : KI} {xs ys : List PV} (q : evE G (callS G k) X a l h fun x h1 => evE G (callS G k) X c l h1 fun y h2 => seqOf h2 x = some xs ∧ lstOf h2 y = some ys ∧ R (zipT xs ys) (fun h => liveL x xs h ∧ liveL y ys h) h2) : evI G (callS G k) X (.zip2 a c) l h R := by
  show evE G (callS G k) X a l h _
  refine mE_ q fun x h1 q => mE_ q fun y h2 q => ⟨xs, ys, q.1, q.2.1, q.2.2⟩
end
end Py

set_option Elab.async false
set_option linter.all false
set_option maxRecDepth 100000
set_option maxHeartbeats 4000000
/-! Terms: what a tuple tells, what an object holds. -/
namespace Py
open PySem
inductive Tm where
  | num (i : Int) | tru (b : Bool) | nam (s : Str) | slf | new (c : Str) (ts : List Tm) | eld (w : Str) (ts : List Tm)
  | fld (t : Tm) (f : Str) | cal (t : Tm) (w : Str) (ts : List Tm) | nt (t : Tm) | two (s : Str) (a b : Tm) | ite (a b c : Tm) | lett (x : Str) (a b : Tm) | sett (t : Tm) (f : Str) (b : Tm)
mutual
/-- the tuple -/
def pl : Tm → PV
  | .num i => .tup [.str "number", .int i]
  | .tru b => .tup [.str "truth", .bl b]
  | .nam s => .tup [.str "name", .str s]
  | .slf => .tup [.str "self"]
  | .new c ts => .tup [.str "new", .str c, .tup (pls ts)]
  | .eld w ts => .tup [.str "elder", .str w, .tup (pls ts)]
  | .fld t f => .tup [.str "field", pl t, .str f]
  | .cal t w ts => .tup [.str "call", pl t, .str w, .tup (pls ts)]
  | .nt t => .tup [.str "not", pl t]
  | .two s a b => .tup [.str "two", .str s, pl a, pl b]
  | .ite a b c => .tup [.str "if", pl a, pl b, pl c]
  | .lett x a b => .tup [.str "let", .str x, pl a, pl b]
  | .sett t f b => .tup [.str "set", pl t, .str f, pl b]
def pls : List Tm → List PV
  | [] => []
  | t :: ts => pl t :: pls ts
end
mutual
/-- how deep calls go to make it -/
def dep : Tm → Nat
  | .num _ => 0
  | .tru _ => 0
  | .nam _ => 0
  | .slf => 0
  | .new _ ts => deps ts + 1
  | .eld _ ts => deps ts + 1
  | .fld t _ => dep t + 1
  | .cal t _ ts => max (dep t) (deps ts) + 1
  | .nt t => dep t + 1
  | .two _ a b => max (dep a) (dep b) + 1
  | .ite a b c => max (dep a) (max (dep b) (dep c)) + 1
  | .lett _ a b => max (dep a) (dep b) + 1
  | .sett t _ b => max (dep t) (dep b) + 1
def deps : List Tm → Nat
  | [] => 0
  | t :: ts => max (dep t) (deps ts)
end
mutual
/-- no list of terms is long -/
def fit : Tm → Prop
  | .num _ => True
  | .tru _ => True
  | .nam _ => True
  | .slf => True
  | .new _ ts => ts.length ≤ 900 ∧ fits ts
  | .eld _ ts => ts.length ≤ 900 ∧ fits ts
  | .fld t _ => fit t
  | .cal t _ ts => ts.length ≤ 900 ∧ fit t ∧ fits ts
  | .nt t => fit t
  | .two _ a b => fit a ∧ fit b
  | .ite a b c => fit a ∧ fit b ∧ fit c
  | .lett _ a b => fit a ∧ fit b
  | .sett t _ b => fit t ∧ fit b
def fits : List Tm → Prop
  | [] => True
  | t :: ts => fit t ∧ fits ts
end
def parts : Tm → List Tm
  | .new _ ts => ts
  | .eld _ ts => ts
  | .fld t _ => [t]
  | .cal t _ ts => t :: ts
  | .nt t => [t]
  | .two _ a b => [a, b]
  | .ite a b c => [a, b, c]
  | .lett _ a b => [a, b]
  | .sett t _ b => [t, b]
  | _ => []
def tmCl : Tm → Nat
  | .num _ => n_NumberTerm
  | .tru _ => n_TruthTerm
  | .nam _ => n_NameTerm
  | .slf => n_SelfTerm
  | .new _ _ => n_NewTerm
  | .eld _ _ => n_ElderTerm
  | .fld _ _ => n_FieldTerm
  | .cal _ _ _ => n_CallTerm
  | .nt _ => n_NotTerm
  | .two _ _ _ => n_TwoTerm
  | .ite _ _ _ => n_IfTerm
  | .lett _ _ _ => n_LetTerm
  | .sett _ _ _ => n_SetTerm
def bas (il : Nat) (i j : Int) : List (Nat × PV) := [(n_inner, .ref il), (n_height, .int i), (n_many, .int j)]
/-- an object of class c with these parts and own fields -/
def Hd (n : Nat) (h : PH) (c p : Nat) (ps : List Nat) (own : List (Nat × PV)) : Prop := ∃ (il : Nat) (i j : Int), n ≤ p ∧ n ≤ il ∧ h[p]? = some (.ins c (bas il i j ++ own)) ∧ h[il]? = some (.lst (ps.map .ref))
mutual
/-- the object at p is this term's -/
def TO (n : Nat) (h : PH) : Tm → Nat → Prop
  | .num i, p => Hd n h n_NumberTerm p [] [(n_number, .int i)]
  | .tru b, p => Hd n h n_TruthTerm p [] [(n_is_yes, .bl b)]
  | .nam s, p => Hd n h n_NameTerm p [] [(n_called, .str s)]
  | .slf, p => Hd n h n_SelfTerm p [] []
  | .new c ts, p => ∃ ps, Hd n h n_NewTerm p ps [(n_called, .str c)] ∧ TOs n h ts ps
  | .eld w ts, p => ∃ ps, Hd n h n_ElderTerm p ps [(n_called, .str w)] ∧ TOs n h ts ps
  | .fld t f, p => ∃ p1, Hd n h n_FieldTerm p [p1] [(n_thing, .ref p1), (n_called, .str f)] ∧ TO n h t p1
  | .cal t w ts, p => ∃ p1 ps gl, Hd n h n_CallTerm p (p1 :: ps) [(n_thing, .ref p1), (n_called, .str w), (n_given, .ref gl)] ∧ (n ≤ gl ∧ h[gl]? = some (.lst (ps.map .ref))) ∧ TO n h t p1 ∧ TOs n h ts ps
  | .nt t, p => ∃ p1, Hd n h n_NotTerm p [p1] [(n_one, .ref p1)] ∧ TO n h t p1
  | .two s a b, p => ∃ p1 p2, Hd n h n_TwoTerm p [p1, p2] [(n_sign, .str s), (n_one, .ref p1), (n_other, .ref p2)] ∧ TO n h a p1 ∧ TO n h b p2
  | .ite a b c, p => ∃ p1 p2 p3, Hd n h n_IfTerm p [p1, p2, p3] [(n_one, .ref p1), (n_other, .ref p2), (n_third, .ref p3)] ∧ TO n h a p1 ∧ TO n h b p2 ∧ TO n h c p3
  | .lett x a b, p => ∃ p1 p2, Hd n h n_LetTerm p [p1, p2] [(n_called, .str x), (n_one, .ref p1), (n_other, .ref p2)] ∧ TO n h a p1 ∧ TO n h b p2
  | .sett t f b, p => ∃ p1 p2, Hd n h n_SetTerm p [p1, p2] [(n_thing, .ref p1), (n_called, .str f), (n_other, .ref p2)] ∧ TO n h t p1 ∧ TO n h b p2
def TOs (n : Nat) (h : PH) : List Tm → List Nat → Prop
  | [], ps => ps = []
  | t :: ts, ps => ∃ p r, ps = p :: r ∧ TO n h t p ∧ TOs n h ts r
end
/-- from n on, what stood stands, and the bound may fall -/
structure Fm (n m : Nat) (h h' : PH) : Prop where
  le : m ≤ n
  at_ : ∀ a o, n ≤ a → isFrl o = false → h[a]? = some o → h'[a]? = some o
theorem Hd.fm {n m : Nat} {h h' : PH} {c p : Nat} {ps : List Nat} {own : List (Nat × PV)} (g : Fm n m h h') (a : Hd n h c p ps own) : Hd m h' c p ps own := let ⟨il, i, j, n1, n2, a1, a2⟩ := a; ⟨il, i, j, Nat.le_trans g.le n1, Nat.le_trans g.le n2, g.at_ _ _ n1 rfl a1, g.at_ _ _ n2 rfl a2⟩
mutual
theorem TO.fm {n m : Nat} {h h' : PH} (g : Fm n m h h') : ∀ (t : Tm) (p : Nat), TO n h t p → TO m h' t p
  | .num _, p, a => Hd.fm g a
  | .tru _, p, a => Hd.fm g a
  | .nam _, p, a => Hd.fm g a
  | .slf, p, a => Hd.fm g a
  | .new c ts, p, a => let ⟨ps, b1, b2⟩ := a; ⟨ps, Hd.fm g b1, TOs.fm g ts ps b2⟩
  | .eld c ts, p, a => let ⟨ps, b1, b2⟩ := a; ⟨ps, Hd.fm g b1, TOs.fm g ts ps b2⟩
  | .fld t f, p, a => let ⟨p1, b1, b2⟩ := a; ⟨p1, Hd.fm g b1, TO.fm g t p1 b2⟩
  | .cal t w ts, p, a => let ⟨p1, ps, gl, b1, b2, b3, b4⟩ := a; ⟨p1, ps, gl, Hd.fm g b1, ⟨Nat.le_trans g.le b2.1, g.at_ _ _ b2.1 rfl b2.2⟩, TO.fm g t p1 b3, TOs.fm g ts ps b4⟩
  | .nt t, p, a => let ⟨p1, b1, b2⟩ := a; ⟨p1, Hd.fm g b1, TO.fm g t p1 b2⟩
  | .two s x y, p, a => let ⟨p1, p2, b1, b2, b3⟩ := a; ⟨p1, p2, Hd.fm g b1, TO.fm g x p1 b2, TO.fm g y p2 b3⟩
  | .ite x y z, p, a => let ⟨p1, p2, p3, b1, b2, b3, b4⟩ := a; ⟨p1, p2, p3, Hd.fm g b1, TO.fm g x p1 b2, TO.fm g y p2 b3, TO.fm g z p3 b4⟩
  | .lett s x y, p, a => let ⟨p1, p2, b1, b2, b3⟩ := a; ⟨p1, p2, Hd.fm g b1, TO.fm g x p1 b2, TO.fm g y p2 b3⟩
  | .sett x s y, p, a => let ⟨p1, p2, b1, b2, b3⟩ := a; ⟨p1, p2, Hd.fm g b1, TO.fm g x p1 b2, TO.fm g y p2 b3⟩
theorem TOs.fm {n m : Nat} {h h' : PH} (g : Fm n m h h') : ∀ (ts : List Tm) (ps : List Nat), TOs n h ts ps → TOs m h' ts ps
  | [], ps, a => a
  | t :: ts, ps, a => let ⟨p, r, b1, b2, b3⟩ := a; ⟨p, r, b1, TO.fm g t p b2, TOs.fm g ts r b3⟩
end
theorem Gr.fm {n m : Nat} {h h' : PH} (g : Gr h h') (l : m ≤ n) : Fm n m h h' := ⟨l, fun _ _ _ _ e => g.get e⟩
theorem TO.gr {n : Nat} {h h' : PH} {t : Tm} {p : Nat} (a : TO n h t p) (g : Gr h h') : TO n h' t p := TO.fm (g.fm (Nat.le_refl _)) t p a
theorem TOs.gr {n : Nat} {h h' : PH} {ts : List Tm} {ps : List Nat} (a : TOs n h ts ps) (g : Gr h h') : TOs n h' ts ps := TOs.fm (g.fm (Nat.le_refl _)) ts ps a
theorem TO.low {n m : Nat} {h : PH} {t : Tm} {p : Nat} (a : TO n h t p) (l : m ≤ n) : TO m h t p := TO.fm ⟨l, fun _ _ _ _ e => e⟩ t p a
theorem TOs.low {n m : Nat} {h : PH} {ts : List Tm} {ps : List Nat} (a : TOs n h ts ps) (l : m ≤ n) : TOs m h ts ps := TOs.fm ⟨l, fun _ _ _ _ e => e⟩ ts ps a
/-- one object below is put for -/
theorem Up.fm {n p : Nat} {h h' : PH} {o : PO} (u : Up h p o h') (l : p < n) : Fm n n h h' := ⟨Nat.le_refl _, fun a o na _ e => u.get (by omega) e⟩
/-- what all terms' objects have -/
theorem TO.hd {n : Nat} {h : PH} : ∀ {t : Tm} {p : Nat}, TO n h t p → ∃ ps own, Hd n h (tmCl t) p ps own ∧ TOs n h (parts t) ps
  | .num _, p, a => ⟨_, _, a, rfl⟩
  | .tru _, p, a => ⟨_, _, a, rfl⟩
  | .nam _, p, a => ⟨_, _, a, rfl⟩
  | .slf, p, a => ⟨_, _, a, rfl⟩
  | .new c ts, p, a => let ⟨ps, b1, b2⟩ := a; ⟨_, _, b1, b2⟩
  | .eld c ts, p, a => let ⟨ps, b1, b2⟩ := a; ⟨_, _, b1, b2⟩
  | .fld t f, p, a => let ⟨p1, b1, b2⟩ := a; ⟨_, _, b1, _, _, rfl, b2, rfl⟩
  | .cal t w ts, p, a => let ⟨p1, ps, gl, b1, b2, b3, b4⟩ := a; ⟨_, _, b1, _, _, rfl, b3, b4⟩
  | .nt t, p, a => let ⟨p1, b1, b2⟩ := a; ⟨_, _, b1, _, _, rfl, b2, rfl⟩
  | .two s x y, p, a => let ⟨p1, p2, b1, b2, b3⟩ := a; ⟨_, _, b1, _, _, rfl, b2, _, _, rfl, b3, rfl⟩
  | .ite x y z, p, a => let ⟨p1, p2, p3, b1, b2, b3, b4⟩ := a; ⟨_, _, b1, _, _, rfl, b2, _, _, rfl, b3, _, _, rfl, b4, rfl⟩
  | .lett s x y, p, a => let ⟨p1, p2, b1, b2, b3⟩ := a; ⟨_, _, b1, _, _, rfl, b2, _, _, rfl, b3, rfl⟩
  | .sett x s y, p, a => let ⟨p1, p2, b1, b2, b3⟩ := a; ⟨_, _, b1, _, _, rfl, b2, _, _, rfl, b3, rfl⟩
theorem TOs.all {n : Nat} {h : PH} : ∀ {ts : List Tm} {ps : List Nat}, TOs n h ts ps → ps.length = ts.length ∧ ∀ q ∈ ps, ∃ t, TO n h t q
  | [], ps, a => by cases (show ps = [] from a); exact ⟨rfl, nofun⟩
  | t :: ts, ps, a => by
    obtain ⟨p, r, rfl, b1, b2⟩ := a
    obtain ⟨l, m⟩ := TOs.all b2
    exact ⟨by simp [l], fun q hq => by
      rcases List.mem_cons.mp hq with rfl | hq
      · exact ⟨t, b1⟩
      · exact m q hq⟩
theorem fld_h (t : Tm) : fld sgT (tmCl t) n_height = true ∧ fld sgT (tmCl t) n_many = true ∧ fld sgT (tmCl t) n_inner = true := by cases t <;> exact ⟨rfl, rfl, rfl⟩
end Py

set_option Elab.async false
set_option linter.all false
set_option maxRecDepth 100000
set_option maxHeartbeats 4000000
/-! Terms made. -/
namespace Py
open PySem
theorem Gr.nw {h h1 h2 : PH} {o : PO} (g : Gr h h1) (u : Nw h1 o h2) : Gr h h2 := g.trans u.stays
theorem Gr.up {h h1 h2 : PH} {p : Nat} {o : PO} (g : Gr h h1) (u : Up h1 p o h2) (n : h.length ≤ p) : Gr h h2 := Stays.gr g (u.stays (D := [p]) (by simp)) (by simpa using n)
theorem Nw.gr {h h1 : PH} {o : PO} (u : Nw h o h1) : Gr h h1 := u.stays
theorem seq_stays {D : List Nat} {h h1 : PH} {v : PV} {xs : List PV} (s : Stays D h h1) (n : ∀ a, v = .ref a → a ∉ D) (e : seqOf h v = some xs) : seqOf h1 v = some xs := by
  cases v with
  | ref a => exact Stays.lst s (n a rfl) e
  | _ => exact e
theorem items_seq {h : PH} {v : PV} {xs : List PV} (e : seqOf h v = some xs) : itemsOf h v = some xs := by
  cases v with
  | str s => cases e
  | _ => exact e
theorem live_seq {h : PH} {v : PV} {xs : List PV} (e : seqOf h v = some xs) : liveL v xs h := by
  cases v with
  | ref a => exact e
  | _ => trivial
theorem max_of : ∀ ns : List Int, ∃ m, m ∈ ns ++ [0] ∧ ∀ y ∈ ns ++ [0], y ≤ m
  | [] => ⟨0, by simp, by simp⟩
  | x :: r => by
    obtain ⟨m, a, b⟩ := max_of r
    by_cases hx : x ≤ m
    · refine ⟨m, List.mem_cons_of_mem _ a, fun y hy => ?_⟩
      rcases List.mem_cons.mp hy with rfl | hy
      · exact hx
      · exact b y hy
    · refine ⟨x, List.mem_cons_self .., fun y hy => ?_⟩
      rcases List.mem_cons.mp hy with rfl | hy
      · exact Int.le_refl _
      · have := b y hy; omega
section
variable {k : Nat} {h : PH} {Q : KQ} {X : KX}
/-- a whole number's field of each part -/
theorem s_col {f : Nat} {l : Loc} {v : PV} {ps : List Nat} (hl : l[1]? = some (some v)) (hi : 2 < l.length) (hs : seqOf h v = some (ps.map .ref)) (hm : ∀ q ∈ ps, ∃ c fs m, h[q]? = some (.ins c fs) ∧ fld sgT c f = true ∧ getN f fs = some (.int m)) (hz : ps.length ≤ 1000)
    (q : ∀ (ns : List Int) h', Gr h h' → h'[h.length]? = some (.lst (ns.map .int)) → ns.length = ps.length → Q (.ref h.length) h') :
    evE sgT (callS sgT k) X (.lc (.attr (.var 2) f) (.nm 2) (.seq (.var 1)) .no) l h Q := by
  refine xLc hi (iSeq (xV hl ⟨items_seq hs, fun h2 N => ?_⟩))
  refine comp_inv (fun i acc h' => Gr h h' ∧ ∃ ns : List Int, acc = ns.map .int ∧ ns.length = i) (fun i acc h' iv => ?_) _ 0 [] h2 ⟨N.gr, [], rfl, rfl⟩ N.at_ (by show 0 + _ ≤ 16777216; rw [List.length_map]; omega) (fun i x acc h' K ex iv ea c1 _ => ?_) fun acc h' iv ea => ?_
  · exact live_seq (seq_stays iv.1 (by simp) hs)
  · obtain ⟨g, ns, rfl, ln⟩ := iv
    rw [List.getElem?_map] at ex
    cases ep : ps[i]? with
    | none => rw [ep] at ex; cases ex
    | some p =>
      rw [ep] at ex
      cases (show PV.ref p = x from Option.some.inj ex)
      obtain ⟨c, fs, m, e1, e2, e3⟩ := hm p (List.mem_of_getElem? ep)
      refine xAt (xV (v := .ref p) (by rw [List.getElem?_set_self (by simpa using hi)]) ⟨p, c, fs, .int m, rfl, g.get e1, e2, e3, ?_⟩)
      refine c1 _ _ ea fun h3 u => ⟨g.up u (Nat.le_refl _), ns ++ [m], by simp, by simp [ln]⟩
  · obtain ⟨g, ns, rfl, ln⟩ := iv
    exact q ns h' g ea (by simpa using ln)
theorem s_init {p c : Nat} {v : PV} {ps : List Nat} (e : h[p]? = some (.ins c [])) (f1 : fld sgT c n_inner = true) (f2 : fld sgT c n_height = true) (f3 : fld sgT c n_many = true) (hs : seqOf h v = some (ps.map .ref)) (hm : ∀ q ∈ ps, ∃ n t, TO n h t q) (hz : ps.length ≤ 1000)
    (q : ∀ h' il i j, Stays [p] h h' → h.length ≤ il → h'[p]? = some (.ins c (bas il i j)) → h'[il]? = some (.lst (ps.map .ref)) → Q .non h') : callS sgT (k + 1) (.fn n_Term___init__) [.ref p, v] h Q X := by
  have nv : ∀ a, v = .ref a → a ∉ [p] := fun a ea m => by
    subst ea
    cases (List.mem_singleton.mp m)
    have z : lstOf h (.ref p) = some (ps.map .ref) := hs
    unfold lstOf at z
    dsimp only at z
    rw [e] at z; cases z
  have nq : ∀ q ∈ ps, q ≠ p := fun q hq z => by
    obtain ⟨_, t, to⟩ := hm q hq
    obtain ⟨_, _, ⟨il, i, j, _, _, b1, _⟩, _⟩ := to.hd
    rw [z, e] at b1
    cases b1
  have fl : ∀ (h' : PH), Stays [p] h h' → ∀ f, (f = n_height ∨ f = n_many) → ∀ q ∈ ps, ∃ c fs m, h'[q]? = some (.ins c fs) ∧ fld sgT c f = true ∧ getN f fs = some (.int m) := fun h' s f hf q hq => by
    obtain ⟨_, t, to⟩ := hm q hq
    obtain ⟨_, own, ⟨il, i, j, _, _, b1, _⟩, _⟩ := to.hd
    have b2 := s.at_ q _ (by simpa using nq q hq) b1
    rcases hf with rfl | rfl
    · exact ⟨_, _, i, b2, (fld_h t).1, rfl⟩
    · exact ⟨_, _, j, b2, (fld_h t).2.1, rfl⟩
  refine xFn (d := d_Term___init__) rfl rfl ?_
  refine sF (i := 0) (p := p) rfl (xBf (a1 (xV (i := 1) rfl ?_)))
  show bfV .list1 [v] h _
  have hb : ∀ R : KQ, R (.ref h.length) (h ++ [.lst (ps.map .ref)]) → bfV .list1 [v] h R := fun R r => by
    cases v <;> first | exact ⟨_, hs, r⟩ | cases hs
  refine hb _ ⟨c, [], get_app e, f1, by simp, fun h2 u => ?_⟩
  have N := Nw.of (h := h) (o := .lst (ps.map .ref))
  have ep := lt_of e
  have s2 : Stays [p] h h2 := (N.stays).trans (u.stays (by simp))
  have el : h2[h.length]? = some (.lst (ps.map .ref)) := u.get (by omega) N.at_
  refine sF (i := 0) (p := p) rfl (xBin (xI (xBf (a1 (xBin (s_col rfl (by show 2 < 3; decide) (seq_stays s2 nv hs) (fl h2 s2 _ (.inl rfl)) hz fun ns h3 g3 e3 ln => ?_))))))
  refine xLst (a1 (xI ⟨by decide, fun h4 N4 => ?_⟩))
  refine ⟨_, _, N4.get e3, N4.at_, by show _ + 1 ≤ 16777216; rw [List.length_map]; omega, ?_⟩
  obtain ⟨m, hm1, hm2⟩ := max_of ns
  refine ⟨ns ++ [0], m, ?_, hm1, hm2, ?_⟩
  · rw [List.map_append]; exact lstOf_new
  have N5 := Nw.of (h := h4) (o := .lst (ns.map .int ++ [.int 0]))
  have g5 : Gr h2 (h4 ++ [.lst (ns.map .int ++ [.int 0])]) := (g3.nw N4).nw N5
  have e5 := g5.get u.at_
  refine ⟨c, _, e5, f2, by simp [putN], fun h6 u6 => ?_⟩
  have s6 : Stays [p] h h6 := s2.trans (g5.stays.trans (u6.stays (by simp)))
  have el6 : h6[h.length]? = some (.lst (ps.map .ref)) := u6.get (by omega) (g5.get el)
  refine sF (i := 0) (p := p) rfl (xBin (xI (xBf (a1 (s_col rfl (by show 2 < 3; decide) (seq_stays s6 nv hs) (fl h6 s6 _ (.inr rfl)) hz fun ns2 h7 g7 e7 ln7 => ?_)))))
  refine ⟨ns2, lst_got e7, ?_⟩
  refine ⟨c, _, g7.get u6.at_, f3, by simp [putN], fun h8 u8 => sEnd ?_⟩
  exact q h8 h.length _ _ (s6.trans (g7.stays.trans (u8.stays (by simp)))) (Nat.le_refl _) u8.at_ (u8.get (by omega) (g7.get el6))
end
end Py

set_option Elab.async false
set_option linter.all false
set_option maxRecDepth 100000
set_option maxHeartbeats 4000000
/-! Each form of term, made (printed by mkterms.py). -/
namespace Py
open PySem
section
variable {k n : Nat} {h : PH} {Q : KQ} {X : KX}
theorem s_mk_NumberTerm {i : Int} (hn : n ≤ h.length) (q : ∀ h' p, Gr h h' → TO n h' (.num i) p → Q (.ref p) h') : callS sgT (k + 3) (.mk n_NumberTerm) [.int i] h Q X := by
  refine xNew rfl fun h1 N => ?_
  refine xFn (d := d_NumberTerm___init__) rfl rfl ?_
  refine sE_ (xIni rfl (aC (xV (i := 0) rfl (a1 (xLst (aN ⟨by show _ ≤ 16777216; simp, fun h2 N2 => ?_⟩))))))
  refine s_init (ps := []) (N2.get N.at_) rfl rfl rfl (lst_got N2.at_) (by simp) (by simp) fun h3 il i' j' S3 ni e3 l3 => ?_
  have g3 : Gr h h3 := Stays.gr (N.gr.trans N2.gr) S3 (by simp)
  have il_ : h.length ≤ il := by have := N.len; have := N2.len; omega
  have nl : il ≠ h.length := fun z => by rw [z, e3] at l3; cases l3
  refine sF (i := 0) (p := h.length) rfl (xV (i := 1) rfl ⟨_, _, e3, rfl, by show (3 : Nat) < 900; omega, fun h4 u4 => ?_⟩)
  have g4 : Gr h h4 := g3.up u4 (Nat.le_refl _)
  have l4 := u4.get nl l3
  have e4 := u4.at_
  refine sEnd ⟨rfl, ?_⟩
  exact q h4 h.length g4 ⟨il, i', j', hn, Nat.le_trans hn il_, e4, l4⟩
theorem s_mk_TruthTerm {b : Bool} (hn : n ≤ h.length) (q : ∀ h' p, Gr h h' → TO n h' (.tru b) p → Q (.ref p) h') : callS sgT (k + 3) (.mk n_TruthTerm) [.bl b] h Q X := by
  refine xNew rfl fun h1 N => ?_
  refine xFn (d := d_TruthTerm___init__) rfl rfl ?_
  refine sE_ (xIni rfl (aC (xV (i := 0) rfl (a1 (xLst (aN ⟨by show _ ≤ 16777216; simp, fun h2 N2 => ?_⟩))))))
  refine s_init (ps := []) (N2.get N.at_) rfl rfl rfl (lst_got N2.at_) (by simp) (by simp) fun h3 il i' j' S3 ni e3 l3 => ?_
  have g3 : Gr h h3 := Stays.gr (N.gr.trans N2.gr) S3 (by simp)
  have il_ : h.length ≤ il := by have := N.len; have := N2.len; omega
  have nl : il ≠ h.length := fun z => by rw [z, e3] at l3; cases l3
  refine sF (i := 0) (p := h.length) rfl (xV (i := 1) rfl ⟨_, _, e3, rfl, by show (3 : Nat) < 900; omega, fun h4 u4 => ?_⟩)
  have g4 : Gr h h4 := g3.up u4 (Nat.le_refl _)
  have l4 := u4.get nl l3
  have e4 := u4.at_
  refine sEnd ⟨rfl, ?_⟩
  exact q h4 h.length g4 ⟨il, i', j', hn, Nat.le_trans hn il_, e4, l4⟩
theorem s_mk_NameTerm {s : Str} (hn : n ≤ h.length) (q : ∀ h' p, Gr h h' → TO n h' (.nam s) p → Q (.ref p) h') : callS sgT (k + 3) (.mk n_NameTerm) [.str s] h Q X := by
  refine xNew rfl fun h1 N => ?_
  refine xFn (d := d_NameTerm___init__) rfl rfl ?_
  refine sE_ (xIni rfl (aC (xV (i := 0) rfl (a1 (xLst (aN ⟨by show _ ≤ 16777216; simp, fun h2 N2 => ?_⟩))))))
  refine s_init (ps := []) (N2.get N.at_) rfl rfl rfl (lst_got N2.at_) (by simp) (by simp) fun h3 il i' j' S3 ni e3 l3 => ?_
  have g3 : Gr h h3 := Stays.gr (N.gr.trans N2.gr) S3 (by simp)
  have il_ : h.length ≤ il := by have := N.len; have := N2.len; omega
  have nl : il ≠ h.length := fun z => by rw [z, e3] at l3; cases l3
  refine sF (i := 0) (p := h.length) rfl (xV (i := 1) rfl ⟨_, _, e3, rfl, by show (3 : Nat) < 900; omega, fun h4 u4 => ?_⟩)
  have g4 : Gr h h4 := g3.up u4 (Nat.le_refl _)
  have l4 := u4.get nl l3
  have e4 := u4.at_
  refine sEnd ⟨rfl, ?_⟩
  exact q h4 h.length g4 ⟨il, i', j', hn, Nat.le_trans hn il_, e4, l4⟩
theorem s_mk_SelfTerm  (hn : n ≤ h.length) (q : ∀ h' p, Gr h h' → TO n h' (.slf) p → Q (.ref p) h') : callS sgT (k + 3) (.mk n_SelfTerm) [] h Q X := by
  refine xNew rfl fun h1 N => ?_
  refine xFn (d := d_SelfTerm___init__) rfl rfl ?_
  refine sE_ (xIni rfl (aC (xV (i := 0) rfl (a1 (xLst (aN ⟨by show _ ≤ 16777216; simp, fun h2 N2 => ?_⟩))))))
  refine s_init (ps := []) (N2.get N.at_) rfl rfl rfl (lst_got N2.at_) (by simp) (by simp) fun h3 il i' j' S3 ni e3 l3 => ?_
  have g3 : Gr h h3 := Stays.gr (N.gr.trans N2.gr) S3 (by simp)
  have il_ : h.length ≤ il := by have := N.len; have := N2.len; omega
  have nl : il ≠ h.length := fun z => by rw [z, e3] at l3; cases l3
  refine sEnd ⟨rfl, ?_⟩
  exact q h3 h.length g3 ⟨il, i', j', hn, Nat.le_trans hn il_, e3, l3⟩
theorem s_mk_NewTerm {c : Str} {ts : List Tm} {ps : List Nat} {a : Nat} (ha : h[a]? = some (.lst (ps.map .ref))) (ht : TOs n h ts ps) (hz : ts.length ≤ 900) (hn : n ≤ h.length) (q : ∀ h' p, Gr h h' → TO n h' (.new c ts) p → Q (.ref p) h') : callS sgT (k + 3) (.mk n_NewTerm) [.str c, .ref a] h Q X := by
  refine xNew rfl fun h1 N => ?_
  refine xFn (d := d_NewTerm___init__) rfl rfl ?_
  have N2 : Gr h h1 := N.gr
  obtain ⟨tl, tm⟩ := TOs.all ht
  refine sE_ (xIni rfl (aC (xV (i := 0) rfl (a1 (xV (i := 2) rfl ?_)))))
  refine s_init (ps := ps) N.at_ rfl rfl rfl (lst_got (N.get ha)) (fun q hq => let ⟨t, to⟩ := tm q hq; ⟨n, t, to.gr N2⟩) (by omega) fun h3 il i' j' S3 ni e3 l3 => ?_
  have g3 : Gr h h3 := Stays.gr N.gr S3 (by simp)
  have il_ : h.length ≤ il := by have := N.len; omega
  have nl : il ≠ h.length := fun z => by rw [z, e3] at l3; cases l3
  refine sF (i := 0) (p := h.length) rfl (xV (i := 1) rfl ⟨_, _, e3, rfl, by show (3 : Nat) < 900; omega, fun h4 u4 => ?_⟩)
  have g4 : Gr h h4 := g3.up u4 (Nat.le_refl _)
  have l4 := u4.get nl l3
  have e4 := u4.at_
  refine sEnd ⟨rfl, ?_⟩
  exact q h4 h.length g4 ⟨ps, ⟨il, i', j', hn, Nat.le_trans hn il_, e4, l4⟩, ht.gr g4⟩
theorem s_mk_ElderTerm {w : Str} {ts : List Tm} {ps : List Nat} {a : Nat} (ha : h[a]? = some (.lst (ps.map .ref))) (ht : TOs n h ts ps) (hz : ts.length ≤ 900) (hn : n ≤ h.length) (q : ∀ h' p, Gr h h' → TO n h' (.eld w ts) p → Q (.ref p) h') : callS sgT (k + 3) (.mk n_ElderTerm) [.str w, .ref a] h Q X := by
  refine xNew rfl fun h1 N => ?_
  refine xFn (d := d_ElderTerm___init__) rfl rfl ?_
  have N2 : Gr h h1 := N.gr
  obtain ⟨tl, tm⟩ := TOs.all ht
  refine sE_ (xIni rfl (aC (xV (i := 0) rfl (a1 (xV (i := 2) rfl ?_)))))
  refine s_init (ps := ps) N.at_ rfl rfl rfl (lst_got (N.get ha)) (fun q hq => let ⟨t, to⟩ := tm q hq; ⟨n, t, to.gr N2⟩) (by omega) fun h3 il i' j' S3 ni e3 l3 => ?_
  have g3 : Gr h h3 := Stays.gr N.gr S3 (by simp)
  have il_ : h.length ≤ il := by have := N.len; omega
  have nl : il ≠ h.length := fun z => by rw [z, e3] at l3; cases l3
  refine sF (i := 0) (p := h.length) rfl (xV (i := 1) rfl ⟨_, _, e3, rfl, by show (3 : Nat) < 900; omega, fun h4 u4 => ?_⟩)
  have g4 : Gr h h4 := g3.up u4 (Nat.le_refl _)
  have l4 := u4.get nl l3
  have e4 := u4.at_
  refine sEnd ⟨rfl, ?_⟩
  exact q h4 h.length g4 ⟨ps, ⟨il, i', j', hn, Nat.le_trans hn il_, e4, l4⟩, ht.gr g4⟩
theorem s_mk_FieldTerm {t : Tm} {p1 : Nat} {f : Str} (t1 : TO n h t p1) (hn : n ≤ h.length) (q : ∀ h' p, Gr h h' → TO n h' (.fld t f) p → Q (.ref p) h') : callS sgT (k + 3) (.mk n_FieldTerm) [.ref p1, .str f] h Q X := by
  refine xNew rfl fun h1 N => ?_
  refine xFn (d := d_FieldTerm___init__) rfl rfl ?_
  refine sE_ (xIni rfl (aC (xV (i := 0) rfl (a1 (xLst (aC (xV (i := 1) rfl (aN ⟨by show _ ≤ 16777216; simp, fun h2 N2 => ?_⟩))))))))
  refine s_init (ps := [p1]) (N2.get N.at_) rfl rfl rfl (lst_got N2.at_) (fun q hq => ?_) (by simp) fun h3 il i' j' S3 ni e3 l3 => ?_
  · simp only [List.mem_cons, List.not_mem_nil, or_false] at hq
    rcases hq with rfl <;> first | exact ⟨n, _, t1.gr (N.gr.trans N2.gr)⟩
  have g3 : Gr h h3 := Stays.gr (N.gr.trans N2.gr) S3 (by simp)
  have il_ : h.length ≤ il := by have := N.len; have := N2.len; omega
  have nl : il ≠ h.length := fun z => by rw [z, e3] at l3; cases l3
  refine sF (i := 0) (p := h.length) rfl (xV (i := 1) rfl ⟨_, _, e3, rfl, by show (3 : Nat) < 900; omega, fun h4 u4 => ?_⟩)
  have g4 : Gr h h4 := g3.up u4 (Nat.le_refl _)
  have l4 := u4.get nl l3
  have e4 := u4.at_
  refine sF (i := 0) (p := h.length) rfl (xV (i := 2) rfl ⟨_, _, e4, rfl, by show (4 : Nat) < 900; omega, fun h5 u5 => ?_⟩)
  have g5 : Gr h h5 := g4.up u5 (Nat.le_refl _)
  have l5 := u5.get nl l4
  have e5 := u5.at_
  refine sEnd ⟨rfl, ?_⟩
  exact q h5 h.length g5 ⟨p1, ⟨il, i', j', hn, Nat.le_trans hn il_, e5, l5⟩, t1.gr g5⟩
theorem s_mk_NotTerm {t : Tm} {p1 : Nat} (t1 : TO n h t p1) (hn : n ≤ h.length) (q : ∀ h' p, Gr h h' → TO n h' (.nt t) p → Q (.ref p) h') : callS sgT (k + 3) (.mk n_NotTerm) [.ref p1] h Q X := by
  refine xNew rfl fun h1 N => ?_
  refine xFn (d := d_NotTerm___init__) rfl rfl ?_
  refine sE_ (xIni rfl (aC (xV (i := 0) rfl (a1 (xLst (aC (xV (i := 1) rfl (aN ⟨by show _ ≤ 16777216; simp, fun h2 N2 => ?_⟩))))))))
  refine s_init (ps := [p1]) (N2.get N.at_) rfl rfl rfl (lst_got N2.at_) (fun q hq => ?_) (by simp) fun h3 il i' j' S3 ni e3 l3 => ?_
  · simp only [List.mem_cons, List.not_mem_nil, or_false] at hq
    rcases hq with rfl <;> first | exact ⟨n, _, t1.gr (N.gr.trans N2.gr)⟩
  have g3 : Gr h h3 := Stays.gr (N.gr.trans N2.gr) S3 (by simp)
  have il_ : h.length ≤ il := by have := N.len; have := N2.len; omega
  have nl : il ≠ h.length := fun z => by rw [z, e3] at l3; cases l3
  refine sF (i := 0) (p := h.length) rfl (xV (i := 1) rfl ⟨_, _, e3, rfl, by show (3 : Nat) < 900; omega, fun h4 u4 => ?_⟩)
  have g4 : Gr h h4 := g3.up u4 (Nat.le_refl _)
  have l4 := u4.get nl l3
  have e4 := u4.at_
  refine sEnd ⟨rfl, ?_⟩
  exact q h4 h.length g4 ⟨p1, ⟨il, i', j', hn, Nat.le_trans hn il_, e4, l4⟩, t1.gr g4⟩
theorem s_mk_TwoTerm {s : Str} {t t2 : Tm} {p1 p2 : Nat} (t1 : TO n h t p1) (t2_ : TO n h t2 p2) (hn : n ≤ h.length) (q : ∀ h' p, Gr h h' → TO n h' (.two s t t2) p → Q (.ref p) h') : callS sgT (k + 3) (.mk n_TwoTerm) [.str s, .ref p1, .ref p2] h Q X := by
  refine xNew rfl fun h1 N => ?_
  refine xFn (d := d_TwoTerm___init__) rfl rfl ?_
  refine sE_ (xIni rfl (aC (xV (i := 0) rfl (a1 (xLst (aC (xV (i := 2) rfl (aC (xV (i := 3) rfl (aN ⟨by show _ ≤ 16777216; simp, fun h2 N2 => ?_⟩))))))))))
  refine s_init (ps := [p1, p2]) (N2.get N.at_) rfl rfl rfl (lst_got N2.at_) (fun q hq => ?_) (by simp) fun h3 il i' j' S3 ni e3 l3 => ?_
  · simp only [List.mem_cons, List.not_mem_nil, or_false] at hq
    rcases hq with rfl | rfl <;> first | exact ⟨n, _, t1.gr (N.gr.trans N2.gr)⟩ | exact ⟨n, _, t2_.gr (N.gr.trans N2.gr)⟩
  have g3 : Gr h h3 := Stays.gr (N.gr.trans N2.gr) S3 (by simp)
  have il_ : h.length ≤ il := by have := N.len; have := N2.len; omega
  have nl : il ≠ h.length := fun z => by rw [z, e3] at l3; cases l3
  refine sF (i := 0) (p := h.length) rfl (xV (i := 1) rfl ⟨_, _, e3, rfl, by show (3 : Nat) < 900; omega, fun h4 u4 => ?_⟩)
  have g4 : Gr h h4 := g3.up u4 (Nat.le_refl _)
  have l4 := u4.get nl l3
  have e4 := u4.at_
  refine sF (i := 0) (p := h.length) rfl (xV (i := 2) rfl ⟨_, _, e4, rfl, by show (4 : Nat) < 900; omega, fun h5 u5 => ?_⟩)
  have g5 : Gr h h5 := g4.up u5 (Nat.le_refl _)
  have l5 := u5.get nl l4
  have e5 := u5.at_
  refine sF (i := 0) (p := h.length) rfl (xV (i := 3) rfl ⟨_, _, e5, rfl, by show (5 : Nat) < 900; omega, fun h6 u6 => ?_⟩)
  have g6 : Gr h h6 := g5.up u6 (Nat.le_refl _)
  have l6 := u6.get nl l5
  have e6 := u6.at_
  refine sEnd ⟨rfl, ?_⟩
  exact q h6 h.length g6 ⟨p1, p2, ⟨il, i', j', hn, Nat.le_trans hn il_, e6, l6⟩, t1.gr g6, t2_.gr g6⟩
theorem s_mk_IfTerm {t t2 t3 : Tm} {p1 p2 p3 : Nat} (t1 : TO n h t p1) (t2_ : TO n h t2 p2) (t3_ : TO n h t3 p3) (hn : n ≤ h.length) (q : ∀ h' p, Gr h h' → TO n h' (.ite t t2 t3) p → Q (.ref p) h') : callS sgT (k + 3) (.mk n_IfTerm) [.ref p1, .ref p2, .ref p3] h Q X := by
  refine xNew rfl fun h1 N => ?_
  refine xFn (d := d_IfTerm___init__) rfl rfl ?_
  refine sE_ (xIni rfl (aC (xV (i := 0) rfl (a1 (xLst (aC (xV (i := 1) rfl (aC (xV (i := 2) rfl (aC (xV (i := 3) rfl (aN ⟨by show _ ≤ 16777216; simp, fun h2 N2 => ?_⟩))))))))))))
  refine s_init (ps := [p1, p2, p3]) (N2.get N.at_) rfl rfl rfl (lst_got N2.at_) (fun q hq => ?_) (by simp) fun h3 il i' j' S3 ni e3 l3 => ?_
  · simp only [List.mem_cons, List.not_mem_nil, or_false] at hq
    rcases hq with rfl | rfl | rfl <;> first | exact ⟨n, _, t1.gr (N.gr.trans N2.gr)⟩ | exact ⟨n, _, t2_.gr (N.gr.trans N2.gr)⟩ | exact ⟨n, _, t3_.gr (N.gr.trans N2.gr)⟩
  have g3 : Gr h h3 := Stays.gr (N.gr.trans N2.gr) S3 (by simp)
  have il_ : h.length ≤ il := by have := N.len; have := N2.len; omega
  have nl : il ≠ h.length := fun z => by rw [z, e3] at l3; cases l3
  refine sF (i := 0) (p := h.length) rfl (xV (i := 1) rfl ⟨_, _, e3, rfl, by show (3 : Nat) < 900; omega, fun h4 u4 => ?_⟩)
  have g4 : Gr h h4 := g3.up u4 (Nat.le_refl _)
  have l4 := u4.get nl l3
  have e4 := u4.at_
  refine sF (i := 0) (p := h.length) rfl (xV (i := 2) rfl ⟨_, _, e4, rfl, by show (4 : Nat) < 900; omega, fun h5 u5 => ?_⟩)
  have g5 : Gr h h5 := g4.up u5 (Nat.le_refl _)
  have l5 := u5.get nl l4
  have e5 := u5.at_
  refine sF (i := 0) (p := h.length) rfl (xV (i := 3) rfl ⟨_, _, e5, rfl, by show (5 : Nat) < 900; omega, fun h6 u6 => ?_⟩)
  have g6 : Gr h h6 := g5.up u6 (Nat.le_refl _)
  have l6 := u6.get nl l5
  have e6 := u6.at_
  refine sEnd ⟨rfl, ?_⟩
  exact q h6 h.length g6 ⟨p1, p2, p3, ⟨il, i', j', hn, Nat.le_trans hn il_, e6, l6⟩, t1.gr g6, t2_.gr g6, t3_.gr g6⟩
theorem s_mk_LetTerm {s : Str} {t t2 : Tm} {p1 p2 : Nat} (t1 : TO n h t p1) (t2_ : TO n h t2 p2) (hn : n ≤ h.length) (q : ∀ h' p, Gr h h' → TO n h' (.lett s t t2) p → Q (.ref p) h') : callS sgT (k + 3) (.mk n_LetTerm) [.str s, .ref p1, .ref p2] h Q X := by
  refine xNew rfl fun h1 N => ?_
  refine xFn (d := d_LetTerm___init__) rfl rfl ?_
  refine sE_ (xIni rfl (aC (xV (i := 0) rfl (a1 (xLst (aC (xV (i := 2) rfl (aC (xV (i := 3) rfl (aN ⟨by show _ ≤ 16777216; simp, fun h2 N2 => ?_⟩))))))))))
  refine s_init (ps := [p1, p2]) (N2.get N.at_) rfl rfl rfl (lst_got N2.at_) (fun q hq => ?_) (by simp) fun h3 il i' j' S3 ni e3 l3 => ?_
  · simp only [List.mem_cons, List.not_mem_nil, or_false] at hq
    rcases hq with rfl | rfl <;> first | exact ⟨n, _, t1.gr (N.gr.trans N2.gr)⟩ | exact ⟨n, _, t2_.gr (N.gr.trans N2.gr)⟩
  have g3 : Gr h h3 := Stays.gr (N.gr.trans N2.gr) S3 (by simp)
  have il_ : h.length ≤ il := by have := N.len; have := N2.len; omega
  have nl : il ≠ h.length := fun z => by rw [z, e3] at l3; cases l3
  refine sF (i := 0) (p := h.length) rfl (xV (i := 1) rfl ⟨_, _, e3, rfl, by show (3 : Nat) < 900; omega, fun h4 u4 => ?_⟩)
  have g4 : Gr h h4 := g3.up u4 (Nat.le_refl _)
  have l4 := u4.get nl l3
  have e4 := u4.at_
  refine sF (i := 0) (p := h.length) rfl (xV (i := 2) rfl ⟨_, _, e4, rfl, by show (4 : Nat) < 900; omega, fun h5 u5 => ?_⟩)
  have g5 : Gr h h5 := g4.up u5 (Nat.le_refl _)
  have l5 := u5.get nl l4
  have e5 := u5.at_
  refine sF (i := 0) (p := h.length) rfl (xV (i := 3) rfl ⟨_, _, e5, rfl, by show (5 : Nat) < 900; omega, fun h6 u6 => ?_⟩)
  have g6 : Gr h h6 := g5.up u6 (Nat.le_refl _)
  have l6 := u6.get nl l5
  have e6 := u6.at_
  refine sEnd ⟨rfl, ?_⟩
  exact q h6 h.length g6 ⟨p1, p2, ⟨il, i', j', hn, Nat.le_trans hn il_, e6, l6⟩, t1.gr g6, t2_.gr g6⟩
theorem s_mk_SetTerm {f : Str} {t t2 : Tm} {p1 p2 : Nat} (t1 : TO n h t p1) (t2_ : TO n h t2 p2) (hn : n ≤ h.length) (q : ∀ h' p, Gr h h' → TO n h' (.sett t f t2) p → Q (.ref p) h') : callS sgT (k + 3) (.mk n_SetTerm) [.ref p1, .str f, .ref p2] h Q X := by
  refine xNew rfl fun h1 N => ?_
  refine xFn (d := d_SetTerm___init__) rfl rfl ?_
  refine sE_ (xIni rfl (aC (xV (i := 0) rfl (a1 (xLst (aC (xV (i := 1) rfl (aC (xV (i := 3) rfl (aN ⟨by show _ ≤ 16777216; simp, fun h2 N2 => ?_⟩))))))))))
  refine s_init (ps := [p1, p2]) (N2.get N.at_) rfl rfl rfl (lst_got N2.at_) (fun q hq => ?_) (by simp) fun h3 il i' j' S3 ni e3 l3 => ?_
  · simp only [List.mem_cons, List.not_mem_nil, or_false] at hq
    rcases hq with rfl | rfl <;> first | exact ⟨n, _, t1.gr (N.gr.trans N2.gr)⟩ | exact ⟨n, _, t2_.gr (N.gr.trans N2.gr)⟩
  have g3 : Gr h h3 := Stays.gr (N.gr.trans N2.gr) S3 (by simp)
  have il_ : h.length ≤ il := by have := N.len; have := N2.len; omega
  have nl : il ≠ h.length := fun z => by rw [z, e3] at l3; cases l3
  refine sF (i := 0) (p := h.length) rfl (xV (i := 1) rfl ⟨_, _, e3, rfl, by show (3 : Nat) < 900; omega, fun h4 u4 => ?_⟩)
  have g4 : Gr h h4 := g3.up u4 (Nat.le_refl _)
  have l4 := u4.get nl l3
  have e4 := u4.at_
  refine sF (i := 0) (p := h.length) rfl (xV (i := 2) rfl ⟨_, _, e4, rfl, by show (4 : Nat) < 900; omega, fun h5 u5 => ?_⟩)
  have g5 : Gr h h5 := g4.up u5 (Nat.le_refl _)
  have l5 := u5.get nl l4
  have e5 := u5.at_
  refine sF (i := 0) (p := h.length) rfl (xV (i := 3) rfl ⟨_, _, e5, rfl, by show (5 : Nat) < 900; omega, fun h6 u6 => ?_⟩)
  have g6 : Gr h h6 := g5.up u6 (Nat.le_refl _)
  have l6 := u6.get nl l5
  have e6 := u6.at_
  refine sEnd ⟨rfl, ?_⟩
  exact q h6 h.length g6 ⟨p1, p2, ⟨il, i', j', hn, Nat.le_trans hn il_, e6, l6⟩, t1.gr g6, t2_.gr g6⟩
theorem s_mk_CallTerm {t : Tm} {p1 : Nat} {w : Str} {ts : List Tm} {ps : List Nat} {a : Nat} (t1 : TO n h t p1) (ha : h[a]? = some (.lst (ps.map .ref))) (ht : TOs n h ts ps) (hz : ts.length ≤ 900) (hn : n ≤ h.length) (q : ∀ h' p, Gr h h' → TO n h' (.cal t w ts) p → Q (.ref p) h') : callS sgT (k + 3) (.mk n_CallTerm) [.ref p1, .str w, .ref a] h Q X := by
  refine xNew rfl fun h1 N => ?_
  refine xFn (d := d_CallTerm___init__) rfl rfl ?_
  obtain ⟨tl, tm⟩ := TOs.all ht
  refine sE_ (xIni rfl (aC (xV (i := 0) rfl (a1 (xBin (xLst (a1 (xV (i := 1) rfl ⟨by show 1 ≤ 16777216; decide, fun h1b Nb => xBf (a1 (xV (i := 3) rfl ⟨_, lst_got (Nb.get (N.get ha)), ?_⟩))⟩))))))))
  have Nc := Nw.of (h := h1b) (o := .lst (ps.map .ref))
  refine ⟨_, _, Nc.get Nb.at_, Nc.at_, by show 1 + _ ≤ 16777216; rw [List.length_map]; omega, ?_⟩
  have Nd := Nw.of (h := h1b ++ [.lst (ps.map .ref)]) (o := .lst ([.ref p1] ++ ps.map .ref))
  have g2 : Gr h1 _ := (Nb.gr.nw Nc).nw Nd
  refine s_init (ps := p1 :: ps) (g2.get N.at_) rfl rfl rfl (lst_got Nd.at_) (fun q hq => ?_) (by simp; omega) fun h3 il i' j' S3 ni e3 l3 => ?_
  · rcases List.mem_cons.mp hq with rfl | hq
    · exact ⟨n, t, t1.gr (N.gr.trans g2)⟩
    · exact let ⟨t, to⟩ := tm q hq; ⟨n, t, to.gr (N.gr.trans g2)⟩
  have g3 : Gr h h3 := Stays.gr (N.gr.trans g2) S3 (by simp)
  have il_ : h.length ≤ il := by have := N.len; have := g2.le; omega
  have nl : il ≠ h.length := fun z => by rw [z, e3] at l3; cases l3
  refine sF (i := 0) (p := h.length) rfl (xV (i := 1) rfl ⟨_, _, e3, rfl, by show (3 : Nat) < 900; omega, fun h4 u4 => ?_⟩)
  have g4 : Gr h h4 := g3.up u4 (Nat.le_refl _)
  have l4 := u4.get nl l3
  have e4 := u4.at_
  refine sF (i := 0) (p := h.length) rfl (xV (i := 2) rfl ⟨_, _, e4, rfl, by show (4 : Nat) < 900; omega, fun h5 u5 => ?_⟩)
  have g5 : Gr h h5 := g4.up u5 (Nat.le_refl _)
  have l5 := u5.get nl l4
  have e5 := u5.at_
  refine sF (i := 0) (p := h.length) rfl (xBf (a1 (xV (i := 3) rfl ⟨_, lst_got (g5.get ha), ?_⟩)))
  have Ne := Nw.of (h := h5) (o := .lst (ps.map .ref))
  refine ⟨_, _, Ne.get e5, rfl, by show (5 : Nat) < 900; omega, fun h6 u6 => ?_⟩
  have g6 : Gr h h6 := (g5.nw Ne).up u6 (Nat.le_refl _)
  have l6 := u6.get nl (Ne.get l5)
  have e6 := u6.at_
  have pl5 : h.length < h5.length := lt_of e5
  have gl6 := u6.get (by omega) Ne.at_
  have gn := g5.le
  refine sEnd ⟨rfl, ?_⟩
  exact q h6 h.length g6 ⟨p1, ps, _, ⟨il, i', j', hn, Nat.le_trans hn il_, e6, l6⟩, ⟨by omega, gl6⟩, t1.gr g6, ht.gr g6⟩
end
end Py

set_option Elab.async false
set_option linter.all false
set_option maxRecDepth 100000
set_option maxHeartbeats 4000000
/-! term_of. -/
namespace Py
open PySem
section
variable {G : Sig} {k : Nat} {X : KX} {l : Loc} {h : PH} {Q : KQ} {D : En} {b a : B} {s w : String} {r : List PV}
theorem t0 {R : Bool → PH → Prop} (e : l[0]? = some (some (.tup (.str (Str.ofString s) :: r)))) (q : R (decide (s = w)) h) : evT G (callS G k) X (.cmp .eq (.idx (.var 0) (.int 0)) (.str (Str.ofString w))) l h R :=
  tC (xIdx (xV e (xI (by rw [iT0]; exact xS (cEqS q)))))
theorem hY (e : l[0]? = some (some (.tup (.str (Str.ofString s) :: r)))) (q : evB G (callS G k) a l h { D with nx := fun l' h' => evB G (callS G k) b l' h' D }) : evB G (callS G k) (.cons (.ife (.cmp .eq (.idx (.var 0) (.int 0)) (.str (Str.ofString s))) a .nil) b) l h D :=
  sIf (r := true) (t0 e ⟨by simp, q⟩)
theorem hN (e : l[0]? = some (some (.tup (.str (Str.ofString s) :: r)))) (ne : s ≠ w) (q : evB G (callS G k) b l h D) : evB G (callS G k) (.cons (.ife (.cmp .eq (.idx (.var 0) (.int 0)) (.str (Str.ofString w))) a .nil) b) l h D :=
  sIf (r := false) (t0 e ⟨by simp [ne], sEnd q⟩)
end
theorem TOs.snoc {n : Nat} {h : PH} : ∀ {ts : List Tm} {ps : List Nat} {t : Tm} {p : Nat}, TOs n h ts ps → TO n h t p → TOs n h (ts ++ [t]) (ps ++ [p])
  | [], ps, t, p, a, b => by cases (show ps = [] from a); exact ⟨p, [], rfl, b, rfl⟩
  | u :: ts, ps, t, p, a, b => by obtain ⟨q, r, rfl, a1, a2⟩ := a; exact ⟨q, r ++ [p], rfl, a1, a2.snoc b⟩
theorem pls_map : ∀ ts : List Tm, pls ts = ts.map pl
  | [] => rfl
  | t :: ts => by show pl t :: pls ts = _; rw [pls_map]; rfl
section
variable {k : Nat} {h : PH} {Q : KQ} {X : KX}
def leafy : Tm → Bool
  | .num _ => true
  | .tru _ => true
  | .nam _ => true
  | .slf => true
  | _ => false
def thingy : Tm → Bool
  | .new _ _ => true
  | .eld _ _ => true
  | .fld _ _ => true
  | .cal _ _ _ => true
  | .sett _ _ _ => true
  | _ => false
theorem s_leafY {t : Tm} (e : leafy t = true) (q : ∀ h' p, Gr h h' → TO h.length h' t p → Q (.ref p) h') : callS sgT (k + 4) (.fn n_leaf_of) [pl t] h Q X := by
  refine xFn (d := d_leaf_of) rfl rfl ?_
  cases t <;> first | cases e; done | skip
  · exact hY rfl (sR (xMk (a1 (xIdx (xV (i := 0) rfl (xI ⟨_, rfl, s_mk_NumberTerm (Nat.le_refl _) q⟩))))))
  · exact hN rfl (by simp) (hY rfl (sR (xMk (a1 (xIdx (xV (i := 0) rfl (xI ⟨_, rfl, s_mk_TruthTerm (Nat.le_refl _) q⟩)))))))
  · exact hN rfl (by simp) (hN rfl (by simp) (hY rfl (sR (xMk (a1 (xIdx (xV (i := 0) rfl (xI ⟨_, rfl, s_mk_NameTerm (Nat.le_refl _) q⟩))))))))
  · exact hN rfl (by simp) (hN rfl (by simp) (hN rfl (by simp) (hY rfl (sR (xMk (aN (s_mk_SelfTerm (Nat.le_refl _) q)))))))
theorem s_leafN {t : Tm} (e : leafy t = false) (q : Q .non h) : callS sgT (k + 1) (.fn n_leaf_of) [pl t] h Q X := by
  refine xFn (d := d_leaf_of) rfl rfl ?_
  cases t <;> first | cases e; done | exact hN rfl (by simp) (hN rfl (by simp) (hN rfl (by simp) (hN rfl (by simp) (sR (xN q)))))
theorem s_thingN {t : Tm} (e : leafy t = false) (e2 : thingy t = false) (q : Q .non h) : callS sgT (k + 1) (.fn n_thing_term_of) [pl t] h Q X := by
  refine xFn (d := d_thing_term_of) rfl rfl ?_
  cases t <;> first | cases e; done | cases e2; done | exact hN rfl (by simp) (hN rfl (by simp) (hN rfl (by simp) (hN rfl (by simp) (hN rfl (by simp) (sR (xN q))))))
/-- what term_of does for t, from this depth on -/
def TS (t : Tm) : Prop := ∀ (k : Nat) (h : PH) (Q : KQ) (X : KX), 2 * dep t + 5 ≤ k → (∀ h' p, Gr h h' → TO h.length h' t p → Q (.ref p) h') → callS sgT k (.fn n_term_of) [pl t] h Q X
/-- all terms of a tuple -/
theorem s_list {l : Loc} {e : E} {ts : List Tm} (hi : 1 < l.length) (ih : ∀ t ∈ ts, TS t) (hk : 2 * deps ts + 5 ≤ k) (hd : ∀ t ∈ ts, dep t ≤ deps ts) (hz : ts.length ≤ 900) (he : ∀ R : KQ, R (.tup (pls ts)) h → evE sgT (callS sgT k) X e l h R)
    (q : ∀ h' ps, Gr h h' → h'[h.length]? = some (.lst (ps.map .ref)) → TOs h.length h' ts ps → Q (.ref h.length) h') : evE sgT (callS sgT k) X (.lc (.call n_term_of (.cons (.var 1) .nil)) (.nm 1) (.seq e) .no) l h Q := by
  refine xLc hi (iSeq (he _ ⟨rfl, fun h2 N => ?_⟩))
  rw [pls_map]
  refine comp_inv (fun i acc h' => Gr h h' ∧ ∃ ps : List Nat, acc = ps.map .ref ∧ h.length < h'.length ∧ TOs (h.length + 1) h' (ts.take i) ps) (fun _ _ _ _ => trivial) _ 0 [] h2 ⟨N.gr, [], rfl, by rw [N.len]; omega, rfl⟩ N.at_ (by show 0 + _ ≤ 16777216; rw [List.length_map]; omega) (fun i x acc h' K ex iv ea c1 _ => ?_) fun acc h' iv ea => ?_
  · obtain ⟨g, ps, rfl, lh, ts_⟩ := iv
    rw [List.getElem?_map] at ex
    cases et : ts[i]? with
    | none => rw [et] at ex; cases ex
    | some t =>
      rw [et] at ex
      cases (show pl t = x from Option.some.inj ex)
      have mt := List.mem_of_getElem? et
      refine xCall (a1 (xV (by rw [List.getElem?_set_self (by simpa using hi)]) (ih t mt k h' _ _ (by have := hd t mt; omega) fun h3 p g3 to => ?_)))
      refine c1 _ _ (g3.get ea) fun h4 u => ?_
      have g4 : Gr h h4 := Gr.up (g.trans g3) u (Nat.le_refl _)
      refine ⟨g4, ps ++ [p], by simp, by have := g3.le; have := u.len; omega, ?_⟩
      rw [show ts.take (0 + i + 1) = ts.take (0 + i) ++ [t] by rw [Nat.zero_add, List.take_succ, et]; rfl]
      have to2 : TO (h.length + 1) h3 t p := to.low (by omega)
      exact TOs.snoc (TOs.fm (u.fm (by omega)) _ _ (ts_.gr g3)) (TO.fm (u.fm (by omega)) _ _ to2)
  · obtain ⟨g, ps, rfl, lh, ts_⟩ := iv
    rw [List.length_map, Nat.zero_add, List.take_length] at ts_
    exact q h' ps g ea (ts_.low (by omega))
theorem deps_le : ∀ {ts : List Tm} {t : Tm}, t ∈ ts → dep t ≤ deps ts
  | u :: ts, t, m => by
    show dep t ≤ max (dep u) (deps ts)
    rcases List.mem_cons.mp m with rfl | m
    · omega
    · have := deps_le m; omega
theorem s_thing {t : Tm} (e : leafy t = false) (e2 : thingy t = true) (fi : fit t) (ih : ∀ u ∈ parts t, TS u) (hk : 2 * dep t ≤ k) (q : ∀ h' p, Gr h h' → TO h.length h' t p → Q (.ref p) h') : callS sgT (k + 4) (.fn n_thing_term_of) [pl t] h Q X := by
  revert fi ih hk q
  refine fun fi ih hk q => ?_
  refine xFn (d := d_thing_term_of) rfl rfl ?_
  cases t <;> first | cases e; done | cases e2; done | skip
  case new c ts =>
    have hk : 2 * (deps ts + 1) ≤ k := hk
    refine hY rfl (sR (xMk (aC (xIdx (xV (i := 0) rfl (xI ⟨_, rfl, a1 (s_list (ts := ts) (by show 1 < 2; decide) ih (by omega) (fun _ => deps_le) fi.1 (fun R r => xIdx (xV (i := 0) rfl (xI ⟨_, rfl, r⟩))) fun h1 ps g1 e1 t1 => ?_)⟩))))))
    exact s_mk_NewTerm e1 t1 fi.1 g1.le fun h2 p g2 to => q h2 p (g1.trans g2) to
  case eld c ts =>
    have hk : 2 * (deps ts + 1) ≤ k := hk
    refine hN rfl (by simp) ?_
    refine hY rfl (sR (xMk (aC (xIdx (xV (i := 0) rfl (xI ⟨_, rfl, a1 (s_list (ts := ts) (by show 1 < 2; decide) ih (by omega) (fun _ => deps_le) fi.1 (fun R r => xIdx (xV (i := 0) rfl (xI ⟨_, rfl, r⟩))) fun h1 ps g1 e1 t1 => ?_)⟩))))))
    exact s_mk_ElderTerm e1 t1 fi.1 g1.le fun h2 p g2 to => q h2 p (g1.trans g2) to
  case fld t f =>
    have hk : 2 * (dep t + 1) ≤ k := hk
    refine hN rfl (by simp) ?_
    refine hN rfl (by simp) ?_
    refine hY rfl (sR (xMk (aC (xCall (a1 (xIdx (xV (i := 0) rfl (xI ⟨_, rfl, ih t (by simp [parts]) _ _ _ _ (by omega) fun h1 p1 g1 t1 => ?_⟩))))))))
    refine a1 (xIdx (xV (i := 0) rfl (xI ⟨_, rfl, ?_⟩)))
    exact s_mk_FieldTerm t1 g1.le fun h2 p g2 to => q h2 p (g1.trans g2) to
  case cal t w ts =>
    have hk : 2 * (max (dep t) (deps ts) + 1) ≤ k := hk
    refine hN rfl (by simp) ?_
    refine hN rfl (by simp) ?_
    refine hN rfl (by simp) ?_
    refine hY rfl (sR (xMk (aC (xCall (a1 (xIdx (xV (i := 0) rfl (xI ⟨_, rfl, ih t (by simp [parts]) _ _ _ _ (by omega) fun h1 p1 g1 t1 => ?_⟩))))))))
    refine aC (xIdx (xV (i := 0) rfl (xI ⟨_, rfl, a1 (s_list (ts := ts) (by show 1 < 2; decide) (fun u m => ih u (List.mem_cons_of_mem _ m)) (by omega) (fun _ => deps_le) fi.1 (fun R r => xIdx (xV (i := 0) rfl (xI ⟨_, rfl, r⟩))) fun h2 ps g2 e2 t2 => ?_)⟩)))
    exact s_mk_CallTerm (t1.gr g2) e2 (t2.low g1.le) fi.1 (Nat.le_trans g1.le g2.le) fun h3 p g3 to => q h3 p ((g1.trans g2).trans g3) to
  case sett t f b =>
    have hk : 2 * (max (dep t) (dep b) + 1) ≤ k := hk
    refine hN rfl (by simp) ?_
    refine hN rfl (by simp) ?_
    refine hN rfl (by simp) ?_
    refine hN rfl (by simp) ?_
    refine hY rfl (sR (xMk (aC (xCall (a1 (xIdx (xV (i := 0) rfl (xI ⟨_, rfl, ih t (by simp [parts]) _ _ _ _ (by omega) fun h1 p1 g1 t1 => ?_⟩))))))))
    refine aC (xIdx (xV (i := 0) rfl (xI ⟨_, rfl, a1 (xCall (a1 (xIdx (xV (i := 0) rfl (xI ⟨_, rfl, ih b (by simp [parts]) _ _ _ _ (by omega) fun h2 p2 g2 t2 => ?_⟩)))))⟩)))
    exact s_mk_SetTerm (t1.gr g2) (t2.low g1.le) (Nat.le_trans g1.le g2.le) fun h3 p g3 to => q h3 p ((g1.trans g2).trans g3) to
theorem s_step {t : Tm} (fi : fit t) (ih : ∀ u ∈ parts t, TS u) : TS t := by
  intro k h Q X hk q
  obtain ⟨j, rfl⟩ : ∃ j, k = j + 5 := ⟨k - 5, by omega⟩
  refine xFn (d := d_term_of) rfl rfl ?_
  have fin : ∀ (h' : PH) (p : Nat) (D : En) (b : B), Gr h h' → TO h.length h' t p → D.rt = Q → evB sgT (callS sgT (j + 4)) (.cons (.ife (.cmp .notN (.var 1) .non) (.cons (.ret (.var 1)) .nil) .nil) b) [some (pl t), some (.ref p)] h' D := fun h' p D b g to hD =>
    sIf (r := true) (tC (xV (i := 1) rfl (xN (cNtN ⟨rfl, sR (xV (i := 1) rfl (by show D.rt (.ref p) h'; rw [hD]; exact q h' p g to))⟩))))
  by_cases f1 : leafy t = true
  · refine sAs (by show 1 < 2; decide) (xCall (a1 (xV (i := 0) rfl (s_leafY f1 fun h' p g to => ?_))))
    refine sIf (r := false) (tC (xV (i := 1) rfl (xN (cIsN ⟨rfl, sEnd (fin _ _ _ _ g to rfl)⟩))))
  have e1 : leafy t = false := by simpa using f1
  clear f1
  refine sAs (by show 1 < 2; decide) (xCall (a1 (xV (i := 0) rfl (s_leafN e1 ?_))))
  refine sIf (r := true) (tC (xV (i := 1) rfl (xN (cIsN ⟨rfl, ?_⟩))))
  by_cases f2 : thingy t = true
  · refine sAs (by show 1 < 2; decide) (xCall (a1 (xV (i := 0) rfl (s_thing e1 f2 fi ih (by omega) fun h' p g to => ?_))))
    exact sEnd (fin _ _ _ _ g to rfl)
  have e2 : thingy t = false := by simpa using f2
  clear f2
  refine sAs (by show 1 < 2; decide) (xCall (a1 (xV (i := 0) rfl (s_thingN e1 e2 (sEnd ?_)))))
  refine sIf (r := false) (tC (xV (i := 1) rfl (xN (cNtN ⟨rfl, sEnd ?_⟩))))
  cases t <;> first | cases e1; done | cases e2; done | skip
  case nt t =>
    have hk : 2 * (dep t + 1) + 5 ≤ j + 5 := hk
    refine hY rfl (sR (xMk (a1 (xCall (a1 (xIdx (xV (i := 0) rfl (xI ⟨_, rfl, ih t (by simp [parts]) _ _ _ _ (by omega) fun h1 p1 g1 t1 => ?_⟩))))))))
    exact s_mk_NotTerm t1 g1.le fun h2 p g2 to => q h2 p (g1.trans g2) to
  case two s a b =>
    have hk : 2 * (max (dep a) (dep b) + 1) + 5 ≤ j + 5 := hk
    refine hN rfl (by simp) ?_
    refine hY rfl (sR (xMk (aC (xIdx (xV (i := 0) rfl (xI ⟨_, rfl, aC (xCall (a1 (xIdx (xV (i := 0) rfl (xI ⟨_, rfl, ih a (by simp [parts]) _ _ _ _ (by omega) fun h1 p1 g1 t1 => ?_⟩)))))⟩))))))
    refine a1 (xCall (a1 (xIdx (xV (i := 0) rfl (xI ⟨_, rfl, ih b (by simp [parts]) _ _ _ _ (by omega) fun h2 p2 g2 t2 => ?_⟩)))))
    exact s_mk_TwoTerm (t1.gr g2) (t2.low g1.le) (Nat.le_trans g1.le g2.le) fun h3 p g3 to => q h3 p ((g1.trans g2).trans g3) to
  case lett s a b =>
    have hk : 2 * (max (dep a) (dep b) + 1) + 5 ≤ j + 5 := hk
    refine hN rfl (by simp) ?_
    refine hN rfl (by simp) ?_
    refine hY rfl (sR (xMk (aC (xIdx (xV (i := 0) rfl (xI ⟨_, rfl, aC (xCall (a1 (xIdx (xV (i := 0) rfl (xI ⟨_, rfl, ih a (by simp [parts]) _ _ _ _ (by omega) fun h1 p1 g1 t1 => ?_⟩)))))⟩))))))
    refine a1 (xCall (a1 (xIdx (xV (i := 0) rfl (xI ⟨_, rfl, ih b (by simp [parts]) _ _ _ _ (by omega) fun h2 p2 g2 t2 => ?_⟩)))))
    exact s_mk_LetTerm (t1.gr g2) (t2.low g1.le) (Nat.le_trans g1.le g2.le) fun h3 p g3 to => q h3 p ((g1.trans g2).trans g3) to
  case ite a b c =>
    have hk : 2 * (max (dep a) (max (dep b) (dep c)) + 1) + 5 ≤ j + 5 := hk
    refine hN rfl (by simp) ?_
    refine hN rfl (by simp) ?_
    refine hN rfl (by simp) ?_
    refine sR (xMk (aC (xCall (a1 (xIdx (xV (i := 0) rfl (xI ⟨_, rfl, ih a (by simp [parts]) _ _ _ _ (by omega) fun h1 p1 g1 t1 => ?_⟩)))))))
    refine aC (xCall (a1 (xIdx (xV (i := 0) rfl (xI ⟨_, rfl, ih b (by simp [parts]) _ _ _ _ (by omega) fun h2 p2 g2 t2 => ?_⟩)))))
    refine a1 (xCall (a1 (xIdx (xV (i := 0) rfl (xI ⟨_, rfl, ih c (by simp [parts]) _ _ _ _ (by omega) fun h3 p3 g3 t3 => ?_⟩)))))
    exact s_mk_IfTerm ((t1.gr g2).gr g3) ((t2.gr g3).low g1.le) (t3.low (Nat.le_trans g1.le g2.le)) (Nat.le_trans g1.le (Nat.le_trans g2.le g3.le)) fun h4 p g4 to => q h4 p (((g1.trans g2).trans g3).trans g4) to
mutual
theorem s_tm : ∀ t : Tm, fit t → TS t
  | .num i, f => s_step f nofun
  | .tru i, f => s_step f nofun
  | .nam i, f => s_step f nofun
  | .slf, f => s_step f nofun
  | .new c ts, f => s_step f (s_tms ts f.2)
  | .eld c ts, f => s_step f (s_tms ts f.2)
  | .fld t g, f => have h1 := s_tm t f; s_step f fun u m => by rw [List.mem_singleton.mp m]; exact h1
  | .cal t w ts, f => have h1 := s_tm t f.2.1; have h2 := s_tms ts f.2.2; s_step f fun u m => by
      rcases List.mem_cons.mp m with rfl | m
      · exact h1
      · exact h2 u m
  | .nt t, f => have h1 := s_tm t f; s_step f fun u m => by rw [List.mem_singleton.mp m]; exact h1
  | .two s a b, f => have h1 := s_tm a f.1; have h2 := s_tm b f.2; s_step f fun u m => by
      simp only [parts, List.mem_cons, List.not_mem_nil, or_false] at m
      rcases m with rfl | rfl
      · exact h1
      · exact h2
  | .ite a b c, f => have h1 := s_tm a f.1; have h2 := s_tm b f.2.1; have h3 := s_tm c f.2.2; s_step f fun u m => by
      simp only [parts, List.mem_cons, List.not_mem_nil, or_false] at m
      rcases m with rfl | rfl | rfl
      · exact h1
      · exact h2
      · exact h3
  | .lett s a b, f => have h1 := s_tm a f.1; have h2 := s_tm b f.2; s_step f fun u m => by
      simp only [parts, List.mem_cons, List.not_mem_nil, or_false] at m
      rcases m with rfl | rfl
      · exact h1
      · exact h2
  | .sett a s b, f => have h1 := s_tm a f.1; have h2 := s_tm b f.2; s_step f fun u m => by
      simp only [parts, List.mem_cons, List.not_mem_nil, or_false] at m
      rcases m with rfl | rfl
      · exact h1
      · exact h2
theorem s_tms : ∀ ts : List Tm, fits ts → ∀ t ∈ ts, TS t
  | [], f, t, m => nomatch m
  | u :: ts, f, t, m => have h1 := s_tm u f.1; have h2 := s_tms ts f.2; by
    rcases List.mem_cons.mp m with rfl | m
    · exact h1
    · exact h2 t m
end
end
end Py

set_option Elab.async false
set_option linter.all false
set_option maxRecDepth 100000
set_option maxHeartbeats 4000000
/-! Programs, as tuples and as objects. -/
namespace Py
open PySem
theorem lz1 {a : PV} : [a].length ≤ SZ := by show 1 ≤ 16777216; decide
theorem lz2 {a b : PV} : [a, b].length ≤ SZ := by show 2 ≤ 16777216; decide
theorem lz3 {a b c : PV} : [a, b, c].length ≤ SZ := by show 3 ≤ 16777216; decide
theorem lz4 {a b c d : PV} : [a, b, c, d].length ≤ SZ := by show 4 ≤ 16777216; decide
structure Wd where
  nm : Str
  ps : List (Str × Str)
  kd : Str
  bd : Tm
structure Hs where
  nm : Str
  el : Option Str
  fs : List (Str × Str)
  ws : List Wd
def prV (p : Str × Str) : PV := .tup [.str p.1, .str p.2]
def prs (ps : List (Str × Str)) : PV := .tup (ps.map prV)
def elV : Option Str → PV
  | none => .non
  | some e => .str e
def plW (w : Wd) : PV := .tup [.str w.nm, prs w.ps, .str w.kd, pl w.bd]
def plH (x : Hs) : PV := .tup [.str x.nm, elV x.el, prs x.fs, .tup (x.ws.map plW)]
def plP (hs : List Hs) (mp : List (Str × Str)) (mk : Str) (mt : Tm) : PV := .tup [.tup (hs.map plH), .tup [prs mp, .str mk, pl mt]]
/-- words as they are told -/
def WT (n : Nat) (h : PH) : List Wd → List PV → Prop
  | [], vs => vs = []
  | w :: ws, vs => ∃ p r, vs = .tup [.str w.nm, prs w.ps, .str w.kd, .ref p] :: r ∧ TO n h w.bd p ∧ WT n h ws r
def HT (n : Nat) (h : PH) : List Hs → List PV → Prop
  | [], vs => vs = []
  | x :: xs, vs => ∃ wl tv r, vs = .tup [.str x.nm, elV x.el, prs x.fs, .ref wl] :: r ∧ (n ≤ wl ∧ h[wl]? = some (.lst tv)) ∧ WT n h x.ws tv ∧ HT n h xs r
theorem WT.fm {n m : Nat} {h h' : PH} (g : Fm n m h h') : ∀ {ws : List Wd} {vs : List PV}, WT n h ws vs → WT m h' ws vs
  | [], vs, a => a
  | w :: ws, vs, a => by obtain ⟨p, r, e, b, c⟩ := a; exact ⟨p, r, e, TO.fm g _ _ b, WT.fm g c⟩
theorem HT.fm {n m : Nat} {h h' : PH} (g : Fm n m h h') : ∀ {xs : List Hs} {vs : List PV}, HT n h xs vs → HT m h' xs vs
  | [], vs, a => a
  | x :: xs, vs, a => by obtain ⟨wl, tv, r, e, b, c, d⟩ := a; exact ⟨wl, tv, r, e, ⟨Nat.le_trans g.le b.1, g.at_ _ _ b.1 rfl b.2⟩, WT.fm g c, HT.fm g d⟩
theorem WT.snoc {n : Nat} {h : PH} : ∀ {ws : List Wd} {vs : List PV} {w : Wd} {p : Nat}, WT n h ws vs → TO n h w.bd p → WT n h (ws ++ [w]) (vs ++ [.tup [.str w.nm, prs w.ps, .str w.kd, .ref p]])
  | [], vs, w, p, a, b => by cases (show vs = [] from a); exact ⟨p, [], rfl, b, rfl⟩
  | u :: ws, vs, w, p, a, b => by obtain ⟨q, r, rfl, a1, a2⟩ := a; exact ⟨q, _, rfl, a1, WT.snoc a2 b⟩
theorem HT.snoc {n : Nat} {h : PH} : ∀ {xs : List Hs} {vs : List PV} {x : Hs} {wl : Nat} {tv : List PV}, HT n h xs vs → (n ≤ wl ∧ h[wl]? = some (.lst tv)) → WT n h x.ws tv → HT n h (xs ++ [x]) (vs ++ [.tup [.str x.nm, elV x.el, prs x.fs, .ref wl]])
  | [], vs, x, wl, tv, a, b, c => by cases (show vs = [] from a); exact ⟨wl, tv, [], rfl, b, c, rfl⟩
  | u :: xs, vs, x, wl, tv, a, b, c => by obtain ⟨q, t, r, rfl, a1, a2, a3⟩ := a; exact ⟨q, t, _, rfl, a1, a2, HT.snoc a3 b c⟩
theorem WT.len {n : Nat} {h : PH} : ∀ {ws : List Wd} {vs : List PV}, WT n h ws vs → vs.length = ws.length
  | [], vs, a => by cases (show vs = [] from a); rfl
  | w :: ws, vs, a => by obtain ⟨p, r, rfl, b, c⟩ := a; simp [WT.len c]
theorem HT.len {n : Nat} {h : PH} : ∀ {xs : List Hs} {vs : List PV}, HT n h xs vs → vs.length = xs.length
  | [], vs, a => by cases (show vs = [] from a); rfl
  | x :: xs, vs, a => by obtain ⟨wl, tv, r, rfl, b, c, d⟩ := a; simp [HT.len d]
/-- the Program object at p -/
def Prg (n : Nat) (h : PH) (p : Nat) (hs : List Hs) (mp : List (Str × Str)) (mk : Str) (mt : Tm) : Prop :=
  ∃ hl hv tp, h[p]? = some (.ins n_Program [(n_houses_told, .ref hl), (n_main_told, .tup [prs mp, .str mk, .ref tp])]) ∧ h[hl]? = some (.lst hv) ∧ HT n h hs hv ∧ TO n h mt tp
section
variable {k : Nat} {h : PH} {Q : KQ} {X : KX}
/-- the words of a house -/
theorem s_words {l : Loc} {ws : List Wd} (hl : l[5]? = some (some (.tup (ws.map plW)))) (hi : 9 < l.length) (hw : ∀ w ∈ ws, fit w.bd ∧ 2 * dep w.bd + 5 ≤ k) (hz : ws.length ≤ 900)
    (q : ∀ h' tv, Gr h h' → h'[h.length]? = some (.lst tv) → WT h.length h' ws tv → Q (.ref h.length) h') :
    evE sgT (callS sgT k) X (.lc (.tup (.cons (.idx (.var 9) (.int 0)) (.cons (.idx (.var 9) (.int 1)) (.cons (.idx (.var 9) (.int 2)) (.cons (.call n_term_of (.cons (.idx (.var 9) (.int 3)) .nil)) .nil))))) (.nm 9) (.seq (.var 5)) .no) l h Q := by
  refine xLc hi (iSeq (xV hl ⟨rfl, fun h2 N => ?_⟩))
  refine comp_inv (fun i acc h' => Gr h h' ∧ h.length < h'.length ∧ WT (h.length + 1) h' (ws.take i) acc) (fun _ _ _ _ => trivial) _ 0 [] h2 ⟨N.gr, by rw [N.len]; omega, rfl⟩ N.at_ (by show 0 + _ ≤ 16777216; rw [List.length_map]; omega) (fun i x acc h' K ex iv ea c1 _ => ?_) fun acc h' iv ea => ?_
  · obtain ⟨g, lh, wt⟩ := iv
    rw [List.getElem?_map] at ex
    cases et : ws[i]? with
    | none => rw [et] at ex; cases ex
    | some w =>
      rw [et] at ex
      cases (show plW w = x from Option.some.inj ex)
      obtain ⟨f1, f2⟩ := hw w (List.mem_of_getElem? et)
      have e9 : ((l.set 9 none).set 9 (some (plW w)))[9]? = some (some (plW w)) := by rw [List.getElem?_set_self (by simpa using hi)]
      refine xTup (aC (xIdx (xV e9 (xI ⟨_, rfl, aC (xIdx (xV e9 (xI ⟨_, rfl, aC (xIdx (xV e9 (xI ⟨_, rfl, a1 (xCall (a1 (xIdx (xV e9 (xI ⟨_, rfl, s_tm w.bd f1 k h' _ _ f2 fun h3 p g3 to => ?_⟩)))))⟩)))⟩)))⟩))))
      refine ⟨lz4, c1 _ _ (g3.get ea) fun h4 u => ?_⟩
      refine ⟨Gr.up (g.trans g3) u (Nat.le_refl _), by have := g3.le; have := u.len; omega, ?_⟩
      rw [show ws.take (0 + i + 1) = ws.take (0 + i) ++ [w] by rw [Nat.zero_add, List.take_succ, et]; rfl]
      exact WT.snoc (WT.fm (u.fm (by omega)) (WT.fm (g3.fm (Nat.le_refl _)) wt)) (TO.fm (u.fm (by omega)) _ _ (to.low (by omega)))
  · obtain ⟨g, lh, wt⟩ := iv
    rw [List.length_map, Nat.zero_add, List.take_length] at wt
    exact q h' acc g ea (WT.fm (n := h.length + 1) ⟨by omega, fun _ _ _ _ e => e⟩ wt)
theorem s_mkProgram {a : Nat} {hv : List PV} {m : PV} (ha : h[a]? = some (.lst hv)) (q : ∀ h' hl, Gr h h' → h'[h.length]? = some (.ins n_Program [(n_houses_told, .ref hl), (n_main_told, m)]) → h'[hl]? = some (.lst hv) → Q (.ref h.length) h') :
    callS sgT (k + 2) (.mk n_Program) [.ref a, m] h Q X := by
  refine xNew rfl fun h1 N => ?_
  refine xFn (d := d_Program___init__) rfl rfl ?_
  refine sF (i := 0) (p := h.length) rfl (xBf (a1 (xV (i := 1) rfl ⟨_, lst_got (N.get ha), ?_⟩)))
  have N2 := Nw.of (h := h1) (o := .lst hv)
  refine ⟨_, _, N2.get N.at_, rfl, by show (0 : Nat) < 900; omega, fun h2 u2 => ?_⟩
  have lh : h.length < h1.length := by rw [N.len]; omega
  have el := u2.get (by omega) N2.at_
  refine sF (i := 0) (p := h.length) rfl (xV (i := 2) rfl ⟨_, _, u2.at_, rfl, by show (1 : Nat) < 900; omega, fun h3 u3 => sEnd ⟨rfl, ?_⟩⟩)
  exact q h3 h1.length (Gr.up (Gr.up (N.gr.nw N2) u2 (Nat.le_refl _)) u3 (Nat.le_refl _)) u3.at_ (u3.get (by omega) el)
def fitP (k : Nat) (hs : List Hs) (mt : Tm) : Prop := hs.length ≤ 900 ∧ (∀ x ∈ hs, x.ws.length ≤ 900 ∧ ∀ w ∈ x.ws, fit w.bd ∧ 2 * dep w.bd + 5 ≤ k) ∧ fit mt ∧ 2 * dep mt + 5 ≤ k
theorem s_program_of {hs : List Hs} {mp : List (Str × Str)} {mk : Str} {mt : Tm} (hf : fitP (k + 2) hs mt) (q : ∀ h' p, Gr h h' → Prg h.length h' p hs mp mk mt → Q (.ref p) h') :
    callS sgT (k + 3) (.fn n_program_of) [plP hs mp mk mt] h Q X := by
  obtain ⟨z1, z2, z3, z4⟩ := hf
  refine xFn (d := d_program_of) rfl rfl ?_
  refine sAs (by show 1 < 10; decide) (xLst (aN ⟨by decide, fun h1 N => ?_⟩))
  refine sFor (iSeq (xIdx (xV (i := 0) rfl (xI ⟨_, rfl, rfl, ?_⟩))))
  refine iter_invN (fun i l' h' => (∃ a b c d e f g j, l' = [some (plP hs mp mk mt), some (.ref h.length), a, b, c, d, e, f, g, j]) ∧ Gr h h' ∧ h.length < h'.length ∧ ∃ hv, h'[h.length]? = some (.lst hv) ∧ HT (h.length + 1) h' (hs.take i) hv) (fun _ _ _ _ => trivial) _ 0 (fun i x ex l' h' K iv hK => ?_) (fun l' h' iv => ?_) _ h1 ⟨⟨_, _, _, _, _, _, _, _, rfl⟩, N.gr, by rw [N.len]; omega, [], N.at_, rfl⟩
  · obtain ⟨⟨a, b, c, d, e, f, g, j, rfl⟩, gr, lh, hv, eh, ht⟩ := iv
    rw [List.getElem?_map] at ex
    cases et : hs[i]? with
    | none => rw [et] at ex; cases ex
    | some y =>
      rw [et] at ex
      cases (show plH y = x from Option.some.inj ex)
      obtain ⟨f1, f2⟩ := z2 y (List.mem_of_getElem? et)
      refine ⟨_, rfl, rfl, _, _, rfl, ⟨by show 2 < 10; decide, _, _, rfl, ⟨by show 3 < 10; decide, _, _, rfl, ⟨by show 4 < 10; decide, _, _, rfl, ⟨by show 5 < 10; decide, rfl, ?_⟩⟩⟩⟩⟩
      refine sE_ (xBm (xV (i := 1) rfl ⟨ty_get eh, a1 (xTup ?_)⟩))
      refine aC (xV (i := 2) rfl (aC (xV (i := 3) rfl (aC (xV (i := 4) rfl (a1 ?_))))))
      refine s_words (ws := y.ws) rfl (by show 9 < 10; decide) f2 f1 fun h2 tv g2 e2 w2 => ⟨lz4, ?_⟩
      have eh2 := g2.get eh
      have il : i < hs.length := (List.getElem?_eq_some_iff.mp et).1
      have ll : hv.length ≤ 900 := by rw [HT.len ht, List.length_take]; omega
      refine ⟨hv, eh2, by show _ < 16777216; omega, sEnd (hK _ _ ⟨⟨_, _, _, _, _, _, _, _, rfl⟩, ?_⟩)⟩
      have u := Up.of (o := .lst (hv ++ [.tup [.str y.nm, elV y.el, prs y.fs, .ref h'.length]])) eh2
      refine ⟨Gr.up (gr.trans g2) u (Nat.le_refl _), by have := g2.le; have := u.len; omega, _, u.at_, ?_⟩
      rw [show hs.take (0 + i + 1) = hs.take (0 + i) ++ [y] by rw [Nat.zero_add, List.take_succ, et]; rfl]
      exact HT.snoc (HT.fm (u.fm (by omega)) (HT.fm (g2.fm (Nat.le_refl _)) ht)) ⟨by omega, u.get (by omega) e2⟩ (WT.fm (u.fm (by omega)) (WT.fm (n := h'.length) ⟨by omega, fun _ _ _ _ e => e⟩ w2))
  · obtain ⟨⟨a, b, c, d, e, f, g, j, rfl⟩, gr, lh, hv, eh, ht⟩ := iv
    rw [List.length_map, Nat.zero_add, List.take_length] at ht
    refine sAT (xs := [prs mp, .str mk, pl mt]) (xIdx (xV (i := 0) rfl (xI ⟨_, rfl, rfl, rfl, ?_⟩)))
    refine ⟨_, _, rfl, ⟨by show 6 < 10; decide, _, _, rfl, ⟨by show 7 < 10; decide, _, _, rfl, ⟨by show 8 < 10; decide, rfl, ?_⟩⟩⟩⟩
    refine sR (xMk (aC (xV (i := 1) rfl (a1 (xTup ?_)))))
    refine aC (xV (i := 6) rfl (aC (xV (i := 7) rfl (a1 (xCall (a1 (xV (i := 8) rfl ?_)))))))
    refine s_tm mt z3 (k + 2) _ _ _ z4 fun h2 p g2 to => ⟨lz3, ?_⟩
    refine s_mkProgram (k := k) (g2.get eh) fun h3 hl g3 e3 e4 => q h3 _ ((gr.trans g2).trans g3) ⟨hl, hv, p, e3, e4, ?_, ?_⟩
    · exact HT.fm (g3.fm (by omega)) (HT.fm (g2.fm (Nat.le_refl _)) ht)
    · exact (to.gr g3).low (by omega)
end
end Py

set_option Elab.async false
set_option linter.all false
set_option maxRecDepth 100000
set_option maxHeartbeats 4000000
/-! The hall of a program. -/
namespace Py
open PySem
theorem eqK_str {a b : Str} : eqK (.str a) (.str b) = decide (a = b) := rfl
theorem look_map {a b : Str} {v : PV} : ∀ kvs : List (PV × PV), lookD (.str b) (kvs.map fun p => if eqK p.1 (.str a) = true then (p.1, v) else p) = if a = b then (if (kvs.any fun p => eqK p.1 (.str a)) = true then some v else none) else lookD (.str b) kvs
  | [] => by by_cases h : a = b <;> simp [lookD, h]
  | (x, y) :: r => by
    rw [List.map_cons, List.any_cons]
    cases x with
    | str c =>
      by_cases h1 : c = a
      · subst h1
        by_cases h2 : c = b
        · subst h2; simp [lookD, eqK_str]
        · simp [lookD, eqK_str, h2, look_map r]
      · by_cases h2 : c = b
        · subst h2
          have h3 : ¬ a = c := fun z => h1 z.symm
          simp [lookD, eqK_str, h1, h3]
        · simp only [lookD, eqK_str, h1, h2, decide_false, Bool.false_eq_true, if_false, Bool.false_or]
          exact look_map r
    | _ => simp only [lookD, eqK, Bool.false_eq_true, if_false, Bool.false_or]; exact look_map r
theorem look_snoc {a b : Str} {v : PV} : ∀ kvs : List (PV × PV), (kvs.any fun p => eqK p.1 (.str a)) = false → lookD (.str b) (kvs ++ [(.str a, v)]) = if a = b then some v else lookD (.str b) kvs
  | [], _ => by simp [lookD, eqK_str]
  | (x, y) :: r, h => by
    rw [List.any_cons, Bool.or_eq_false_iff] at h
    rw [List.cons_append]
    cases x with
    | str c =>
      have h1 : ¬ c = a := by simpa [eqK_str] using h.1
      by_cases h2 : c = b
      · subst h2
        have h3 : ¬ a = c := fun z => h1 z.symm
        simp [lookD, eqK_str, h3]
      · simp only [lookD, eqK_str, h2, decide_false, Bool.false_eq_true, if_false]
        exact look_snoc r h.2
    | _ => simp only [lookD, eqK, Bool.false_eq_true, if_false]; exact look_snoc r h.2
theorem look_put {a b : Str} {v : PV} {kvs : List (PV × PV)} : lookD (.str b) (putD (.str a) v kvs) = if a = b then some v else lookD (.str b) kvs := by
  unfold putD
  cases h : kvs.any fun p => eqK p.1 (.str a) with
  | true => rw [if_pos rfl, look_map, h]; simp
  | false => rw [if_neg Bool.false_ne_true, look_snoc kvs h]
theorem len_putD {k v : PV} {kvs : List (PV × PV)} : (putD k v kvs).length ≤ kvs.length + 1 := by
  unfold putD
  split <;> simp
def hdV (w : Wd) : PV := .tup [.str w.nm, prs w.ps, .str w.kd]
theorem WT.get {n : Nat} {h : PH} : ∀ {ws : List Wd} {vs : List PV} {i : Nat} {x : PV}, WT n h ws vs → vs[i]? = some x → ∃ w p, ws[i]? = some w ∧ x = .tup [.str w.nm, prs w.ps, .str w.kd, .ref p] ∧ TO n h w.bd p
  | [], vs, i, x, a, e => by cases (show vs = [] from a); simp at e
  | w :: ws, vs, i, x, a, e => by
    obtain ⟨p, r, rfl, b, c⟩ := a
    cases i with
    | zero => simp at e; exact ⟨w, p, rfl, e.symm, b⟩
    | succ i => have z := WT.get (ws := ws) (i := i) c (by simpa using e); exact z
theorem HT.get {n : Nat} {h : PH} : ∀ {xs : List Hs} {vs : List PV} {i : Nat} {v : PV}, HT n h xs vs → vs[i]? = some v → ∃ x wl tv, xs[i]? = some x ∧ v = .tup [.str x.nm, elV x.el, prs x.fs, .ref wl] ∧ h[wl]? = some (.lst tv) ∧ WT n h x.ws tv
  | [], vs, i, v, a, e => by cases (show vs = [] from a); simp at e
  | x :: xs, vs, i, v, a, e => by
    obtain ⟨wl, tv, r, rfl, b, c, d⟩ := a
    cases i with
    | zero => simp at e; exact ⟨x, wl, tv, rfl, e.symm, b.2, c⟩
    | succ i => have z := HT.get (xs := xs) (i := i) d (by simpa using e); exact z
/-- what the three dicts tell of these houses -/
def HL (n : Nat) (h : PH) (hs : List Hs) (kab kow khd : List (PV × PV)) : Prop := ∀ x ∈ hs, lookD (.str x.nm) kab = some (elV x.el) ∧ (∃ a, n ≤ a ∧ lookD (.str x.nm) kow = some (.ref a) ∧ h[a]? = some (.lst (x.fs.map prV))) ∧
  ∃ a, n ≤ a ∧ lookD (.str x.nm) khd = some (.ref a) ∧ h[a]? = some (.lst (x.ws.map hdV))
theorem HL.fm {n : Nat} {h h' : PH} {hs : List Hs} {kab kow khd : List (PV × PV)} (g : Fm n n h h') (a : HL n h hs kab kow khd) : HL n h' hs kab kow khd := fun x m => by
  obtain ⟨a1, ⟨u, b1, b2, b3⟩, w, c1, c2, c3⟩ := a x m
  exact ⟨a1, ⟨u, b1, b2, g.at_ _ _ b1 rfl b3⟩, w, c1, c2, g.at_ _ _ c1 rfl c3⟩
structure HallO (h : PH) (hp : Nat) (hs : List Hs) : Prop where
  ex : ∃ oa ab ow hd kab kow khd, h[hp]? = some (.ins n_Hall [(n_order, .ref oa), (n_above, .ref ab), (n_own, .ref ow), (n_heads, .ref hd)]) ∧ h[oa]? = some (.lst (hs.map fun x => .str x.nm)) ∧
    (h[ab]? = some (.dic kab) ∧ h[ow]? = some (.dic kow) ∧ h[hd]? = some (.dic khd)) ∧ HL 0 h hs kab kow khd
theorem HallO.fm {h h' : PH} {hp : Nat} {hs : List Hs} (a : HallO h hp hs) (g : Fm 0 0 h h') : HallO h' hp hs := by
  obtain ⟨oa, ab, ow, hd, kab, kow, khd, e1, e2, ⟨e3, e4, e5⟩, e6⟩ := a
  have up : ∀ {a o}, isFrl o = false → h[a]? = some o → h'[a]? = some o := fun f e => g.at_ _ _ (Nat.zero_le _) f e
  exact ⟨oa, ab, ow, hd, kab, kow, khd, up rfl e1, up rfl e2, ⟨up rfl e3, up rfl e4, up rfl e5⟩, e6.fm g⟩
theorem HallO.gr {h h' : PH} {hp : Nat} {hs : List Hs} (a : HallO h hp hs) (g : Gr h h') : HallO h' hp hs := a.fm (g.fm (Nat.le_refl _))
section
variable {k : Nat} {h : PH} {Q : KQ} {X : KX}
theorem s_heads {l : Loc} {ws : List Wd} {wl n : Nat} {tv : List PV} (hl : l[5]? = some (some (.ref wl))) (hi : 6 < l.length) (e : h[wl]? = some (.lst tv)) (wt : WT n h ws tv) (hz : ws.length ≤ 900)
    (q : ∀ h', Gr h h' → h'[h.length]? = some (.lst (ws.map hdV)) → Q (.ref h.length) h') :
    evE sgT (callS sgT k) X (.lc (.tup (.cons (.idx (.var 6) (.int 0)) (.cons (.idx (.var 6) (.int 1)) (.cons (.idx (.var 6) (.int 2)) .nil)))) (.nm 6) (.seq (.var 5)) .no) l h Q := by
  have ln := WT.len wt
  refine xLc hi (iSeq (xV hl ⟨lst_got e, fun h2 N => ?_⟩))
  refine comp_inv (fun i acc h' => Gr h h' ∧ acc = (ws.take i).map hdV) (fun i acc h' iv => lst_got (iv.1.get e)) _ 0 [] h2 ⟨N.gr, rfl⟩ N.at_ (by show 0 + _ ≤ 16777216; omega) (fun i x acc h' K ex iv ea c1 _ => ?_) fun acc h' iv ea => ?_
  · obtain ⟨g, rfl⟩ := iv
    obtain ⟨w, p, ew, rfl, _⟩ := WT.get wt ex
    have e9 : ((l.set 6 none).set 6 (some (.tup [.str w.nm, prs w.ps, .str w.kd, .ref p])))[6]? = some (some (.tup [.str w.nm, prs w.ps, .str w.kd, .ref p])) := by rw [List.getElem?_set_self (by simpa using hi)]
    refine xTup (aC (xIdx (xV e9 (xI ⟨_, rfl, aC (xIdx (xV e9 (xI ⟨_, rfl, a1 (xIdx (xV e9 (xI ⟨_, rfl, lz3, ?_⟩)))⟩)))⟩))))
    refine c1 _ _ ea fun h4 u => ⟨Gr.up g u (Nat.le_refl _), ?_⟩
    rw [show ws.take (0 + i + 1) = ws.take (0 + i) ++ [w] by rw [Nat.zero_add, List.take_succ, ew]; rfl, List.map_append]; rfl
  · obtain ⟨g, rfl⟩ := iv
    rw [Nat.zero_add, ln, List.take_length] at ea
    exact q h' g ea
theorem s_hall {n p : Nat} {hs : List Hs} {mp : List (Str × Str)} {mk : Str} {mt : Tm} (P : Prg n h p hs mp mk mt) (nd : (hs.map (·.nm)).Nodup) (hz : hs.length ≤ 900) (hw : ∀ x ∈ hs, x.ws.length ≤ 900) (q : ∀ h', Gr h h' → HallO h' h.length hs → Q (.ref h.length) h') :
    callS sgT (k + 2) (.mk n_Hall) [.ref p] h Q X := by
  obtain ⟨hl, hv, tp, e1, e2, ht, _⟩ := P
  refine xNew rfl fun h1 N => ?_
  refine xFn (d := d_Hall___init__) rfl rfl ?_
  have l1 := N.len
  refine sF (i := 0) (p := h.length) rfl (xLst (aN ⟨by decide, fun h2 N2 => ⟨_, _, N2.get N.at_, rfl, by show (0 : Nat) < 900; omega, fun h3 u3 => ?_⟩⟩))
  have l3 : h3.length = h.length + 2 := by rw [u3.len, N2.len]; omega
  have o3 : h3[h.length + 1]? = some (.lst []) := u3.get (by omega) (by rw [← l1]; exact N2.at_)
  refine sF (i := 0) (p := h.length) rfl (xDic0 fun h4 N4 => ⟨_, _, N4.get u3.at_, rfl, by show (1 : Nat) < 900; omega, fun h5 u5 => ?_⟩)
  have l5 : h5.length = h.length + 3 := by rw [u5.len, N4.len]; omega
  have a5 : h5[h.length + 2]? = some (.dic []) := u5.get (by omega) (by rw [← l3]; exact N4.at_)
  refine sF (i := 0) (p := h.length) rfl (xDic0 fun h6 N6 => ⟨_, _, N6.get u5.at_, rfl, by show (2 : Nat) < 900; omega, fun h7 u7 => ?_⟩)
  have l7 : h7.length = h.length + 4 := by rw [u7.len, N6.len]; omega
  have w7 : h7[h.length + 3]? = some (.dic []) := u7.get (by omega) (by rw [← l5]; exact N6.at_)
  refine sF (i := 0) (p := h.length) rfl (xDic0 fun h8 N8 => ⟨_, _, N8.get u7.at_, rfl, by show (3 : Nat) < 900; omega, fun h9 u9 => ?_⟩)
  have l9 : h9.length = h.length + 5 := by rw [u9.len, N8.len]; omega
  have d9 : h9[h.length + 4]? = some (.dic []) := u9.get (by omega) (by rw [← l7]; exact N8.at_)
  have w9 := u9.get (by omega) (N8.get w7)
  have a9 := u9.get (by omega) (N8.get (u7.get (by omega) (N6.get a5)))
  have o9 := u9.get (by omega) (N8.get (u7.get (by omega) (N6.get (u5.get (by omega) (N4.get o3)))))
  have g9 : Gr h h9 := Gr.up (Gr.nw (Gr.up (Gr.nw (Gr.up (Gr.nw (Gr.up (Gr.nw N.gr N2) u3 (Nat.le_refl _)) N4) u5 (Nat.le_refl _)) N6) u7 (Nat.le_refl _)) N8) u9 (Nat.le_refl _)
  have s9 : h9[h.length]? = some (.ins n_Hall [(n_order, .ref (h.length + 1)), (n_above, .ref (h.length + 2)), (n_own, .ref (h.length + 3)), (n_heads, .ref (h.length + 4))]) := by
    rw [u9.at_, l1, l3, l5, l7]; rfl
  refine sFor (iSeq (xAtV (i := 1) (p := p) rfl (g9.get e1) rfl rfl ⟨lst_got (g9.get e2), ?_⟩))
  refine iter_invN (fun i l' h' => (∃ a b c d e, l' = [some (.ref h.length), some (.ref p), a, b, c, d, e]) ∧ Gr h h' ∧ h.length + 5 ≤ h'.length ∧ h'[h.length]? = some (.ins n_Hall [(n_order, .ref (h.length + 1)), (n_above, .ref (h.length + 2)), (n_own, .ref (h.length + 3)), (n_heads, .ref (h.length + 4))]) ∧
      h'[h.length + 1]? = some (.lst ((hs.take i).map fun x => .str x.nm)) ∧ ∃ kab kow khd, (h'[h.length + 2]? = some (.dic kab) ∧ h'[h.length + 3]? = some (.dic kow) ∧ h'[h.length + 4]? = some (.dic khd)) ∧ (kab.length ≤ i ∧ kow.length ≤ i ∧ khd.length ≤ i) ∧ HL (h.length + 5) h' (hs.take i) kab kow khd)
    (fun i l' h' iv => lst_got (iv.2.1.get e2)) _ 0 (fun i x ex l' h' K iv hK => ?_) (fun l' h' iv => ?_) _ h9 ⟨⟨_, _, _, _, _, rfl⟩, g9, by omega, s9, o9, [], [], [], ⟨a9, w9, d9⟩, ⟨Nat.le_refl _, Nat.le_refl _, Nat.le_refl _⟩, fun x m => by cases m⟩
  · obtain ⟨⟨a, b, c, d, e, rfl⟩, g, lh, so, oo, kab, kow, khd, ⟨ea, eo, eh⟩, ⟨za, zo, zh⟩, hL⟩ := iv
    obtain ⟨y, wl, tv, ey, rfl, ew, wt⟩ := HT.get ht ex
    have il : i < hs.length := (List.getElem?_eq_some_iff.mp ey).1
    have my := List.mem_of_getElem? ey
    have fresh : ∀ z ∈ hs.take (0 + i), ¬ y.nm = z.nm := fun z mz e => by
      rw [Nat.zero_add] at mz
      obtain ⟨j, hj, rfl⟩ := List.mem_iff_getElem.mp mz
      rw [List.length_take] at hj
      have hj2 : j < i := by omega
      rw [List.getElem_take] at e
      have q1 : (hs.map (·.nm))[i]? = some y.nm := by rw [List.getElem?_map, ey]; rfl
      have q2 : (hs.map (·.nm))[j]? = some y.nm := by rw [List.getElem?_map, List.getElem?_eq_getElem (by omega)]; exact congrArg some e.symm
      have := (List.getElem?_inj (by simp; omega) nd).mp (q2.trans q1.symm)
      omega
    refine ⟨_, rfl, rfl, _, _, rfl, ⟨by show 2 < 7; decide, _, _, rfl, ⟨by show 3 < 7; decide, _, _, rfl, ⟨by show 4 < 7; decide, _, _, rfl, ⟨by show 5 < 7; decide, rfl, ?_⟩⟩⟩⟩⟩
    refine sE_ (xBm (xAtV (i := 0) (p := h.length) rfl so rfl rfl ⟨ty_get oo, a1 (xV (i := 2) rfl ⟨_, oo, by show _ < 16777216; rw [List.length_map, List.length_take]; omega, ?_⟩)⟩))
    have u1 := Up.of (o := .lst ((hs.take (0 + i)).map (fun x => PV.str x.nm) ++ [.str y.nm])) oo
    generalize h'.set (h.length + 1) (.lst ((hs.take (0 + i)).map (fun x => PV.str x.nm) ++ [.str y.nm])) = H1 at u1 ⊢
    have so1 := u1.get (by omega) so
    have ea1 := u1.get (by omega) ea
    refine sSub (xV (i := 3) rfl (xAtV (i := 0) (p := h.length) rfl so1 rfl rfl (xV (i := 2) rfl ?_)))
    rw [put_dic ea1 rfl (by show _ < 16777216; omega)]
    have u2 := Up.of (o := .dic (putD (.str y.nm) (elV y.el) kab)) ea1
    generalize H1.set (h.length + 2) (.dic (putD (.str y.nm) (elV y.el) kab)) = H2 at u2 ⊢
    have so2 := u2.get (by omega) so1
    have eo2 := u2.get (by omega) (u1.get (by omega) eo)
    refine sSub (xBf (a1 (xV (i := 4) rfl ⟨_, rfl, ?_⟩)))
    have N3 := Nw.of (h := H2) (o := .lst (y.fs.map prV))
    generalize H2 ++ [PO.lst (y.fs.map prV)] = H3 at N3 ⊢
    have eo3 := N3.get eo2
    refine xAtV (i := 0) (p := h.length) rfl (N3.get so2) rfl rfl (xV (i := 2) rfl ?_)
    rw [put_dic eo3 rfl (by show _ < 16777216; omega)]
    have u4 := Up.of (o := .dic (putD (.str y.nm) (.ref H2.length) kow)) eo3
    generalize H3.set (h.length + 3) (.dic (putD (.str y.nm) (.ref H2.length) kow)) = H4 at u4 ⊢
    have so4 := u4.get (by omega) (N3.get so2)
    have eh4 := u4.get (by omega) (N3.get (u2.get (by omega) (u1.get (by omega) eh)))
    have g4 : Gr h H4 := Gr.up (Gr.nw (Gr.up (Gr.up g u1 (by omega)) u2 (by omega)) N3) u4 (by omega)
    have L2 : H2.length = h'.length := by rw [u2.len, u1.len]
    have L4 : H4.length = h'.length + 1 := by rw [u4.len, N3.len, L2]
    have nl4 : H4[H2.length]? = some (.lst (y.fs.map prV)) := u4.get (by omega) N3.at_
    refine sSub (s_heads (ws := y.ws) (wl := wl) rfl (by show 6 < 7; decide) (g4.get ew) (WT.fm (g4.fm (Nat.le_refl _)) wt) (hw y my) fun H5 g5 e5 => ?_)
    have eh5 := g5.get eh4
    refine xAtV (i := 0) (p := h.length) rfl (g5.get so4) rfl rfl (xV (i := 2) rfl ?_)
    rw [put_dic eh5 rfl (by show _ < 16777216; omega)]
    have u6 := Up.of (o := .dic (putD (.str y.nm) (.ref H4.length) khd)) eh5
    generalize H5.set (h.length + 4) (.dic (putD (.str y.nm) (.ref H4.length) khd)) = H6 at u6 ⊢
    have le5 := g5.le
    refine sEnd (hK _ _ ⟨⟨_, _, _, _, _, rfl⟩, Gr.up (g4.trans g5) u6 (by omega), by have := u6.len; omega, u6.get (by omega) (g5.get so4), ?_, _, _, _, ⟨u6.get (by omega) (g5.get (u4.get (by omega) (N3.get u2.at_))), u6.get (by omega) (g5.get u4.at_), u6.at_⟩, ⟨?_, ?_, ?_⟩, fun z mz => ?_⟩)
    · rw [show hs.take (0 + i + 1) = hs.take (0 + i) ++ [y] by rw [Nat.zero_add, List.take_succ, ey]; rfl, List.map_append]
      exact u6.get (by omega) (g5.get (u4.get (by omega) (N3.get (u2.get (by omega) u1.at_))))
    · have := len_putD (k := .str y.nm) (v := elV y.el) (kvs := kab); omega
    · have := len_putD (k := .str y.nm) (v := .ref H2.length) (kvs := kow); omega
    · have := len_putD (k := .str y.nm) (v := .ref H4.length) (kvs := khd); omega
    · rw [look_put, look_put, look_put]
      rw [show hs.take (0 + i + 1) = hs.take (0 + i) ++ [y] by rw [Nat.zero_add, List.take_succ, ey]; rfl] at mz
      rcases List.mem_append.mp mz with mz | mz
      · rw [if_neg (fresh z mz), if_neg (fresh z mz), if_neg (fresh z mz)]
        obtain ⟨b1, ⟨v, c1, c2, c3⟩, w, d1, d2, d3⟩ := hL z mz
        have up : ∀ {v : Nat} {o : PO}, h.length + 5 ≤ v → h'[v]? = some o → H6[v]? = some o := fun c e => u6.get (by omega) (g5.get (u4.get (by omega) (N3.get (u2.get (by omega) (u1.get (by omega) e)))))
        exact ⟨b1, ⟨v, c1, c2, up c1 c3⟩, w, d1, d2, up d1 d3⟩
      · cases (List.mem_singleton.mp mz)
        rw [if_pos rfl, if_pos rfl, if_pos rfl]
        exact ⟨rfl, ⟨H2.length, by omega, rfl, u6.get (by omega) (g5.get nl4)⟩, H4.length, by omega, rfl, u6.get (by omega) e5⟩
  · obtain ⟨⟨a, b, c, d, e, rfl⟩, g, lh, so, oo, kab, kow, khd, ks, _, hL⟩ := iv
    have ll : (0 + hv.length) = hs.length := by rw [Nat.zero_add, HT.len ht]
    rw [ll, List.take_length] at oo hL
    refine sEnd ⟨rfl, q h' g ⟨_, _, _, _, kab, kow, khd, so, oo, ks, fun x m => ?_⟩⟩
    obtain ⟨b1, ⟨v, c1, c2, c3⟩, w, d1, d2, d3⟩ := hL x m
    exact ⟨b1, ⟨v, Nat.zero_le _, c2, c3⟩, w, Nat.zero_le _, d2, d3⟩
end
end Py

set_option Elab.async false
set_option linter.all false
set_option maxRecDepth 100000
set_option maxHeartbeats 4000000
/-! What a hall tells. -/
namespace Py
open PySem
/-- a house and its elders, the nearest first -/
inductive Ch (hs : List Hs) : Hs → List Hs → Prop
  | top {x : Hs} : x ∈ hs → x.el = none → Ch hs x []
  | up {x e : Hs} {es : List Hs} : x ∈ hs → x.el = some e.nm → Ch hs e es → Ch hs x (e :: es)
theorem Ch.mem {hs : List Hs} {x : Hs} {es : List Hs} (c : Ch hs x es) : x ∈ hs := by cases c <;> assumption
theorem Ch.all {hs : List Hs} {x : Hs} {es : List Hs} (c : Ch hs x es) : ∀ e ∈ es, e ∈ hs := by
  induction c with
  | top => exact fun e m => by cases m
  | up m e c ih =>
    intro y my
    rcases List.mem_cons.mp my with rfl | my
    · exact c.mem
    · exact ih y my
def wix (w : Str) : List Wd → Option Nat
  | [] => none
  | x :: r => if x.nm = w then some 0 else (wix w r).map (· + 1)
/-- the nearest house that has a word -/
def fnd (w : Str) : List Hs → Option (Hs × Nat)
  | [] => none
  | x :: r => match wix w x.ws with
    | some i => some (x, i)
    | none => fnd w r
def spV : Option (Hs × Nat) → PV
  | none => .non
  | some (x, i) => .tup [.str x.nm, .int i]
def plc (f : Str) : List (Str × Str) → Option Nat
  | [] => none
  | x :: r => if x.1 = f then some 0 else (plc f r).map (· + 1)
def flds (xs : List Hs) : List (Str × Str) := xs.reverse.flatMap (·.fs)
def nmV (x : Hs) : PV := .str x.nm
section
variable {k hp : Nat} {h : PH} {Q : KQ} {X : KX} {hs : List Hs}
theorem elders_loop {oa ab ow hd d : Nat} {kab kow khd : List (PV × PV)} {h0 : PH} (e1 : h0[hp]? = some (.ins n_Hall [(n_order, .ref oa), (n_above, .ref ab), (n_own, .ref ow), (n_heads, .ref hd)])) (e3 : h0[ab]? = some (.dic kab)) (hL : HL 0 h0 hs kab kow khd) (hd0 : h0.length = d)
    {x : Hs} {es : List Hs} (c : Ch hs x es) : ∀ (acc : List Hs) (h : PH) (z : Option PV), Gr h0 h → h[d]? = some (.lst (acc.map nmV)) → acc.length + es.length ≤ 900 → (∀ h', Gr h0 h' → h'[d]? = some (.lst ((acc ++ es).map nmV)) → Q (.ref d) h') →
      whlN (fun l' h' K => evT sgT (callS sgT k) (fun x h' => X x h') (.cmp .notN (.var 3) .non) l' h' fun r h1 => if r = true then evB sgT (callS sgT k) (.cons (.exp (.bm .append (.var 2) (.cons (.var 3) .nil))) (.cons (.asg (.nm 3) (.idx (.attr (.var 0) n_above) (.var 3))) .nil)) l' h1 ⟨K, Q, K, fun x _ h' => X x h'⟩ else evB sgT (callS sgT k) (.cons (.ret (.var 2)) .nil) l' h1 ⟨fun _ h' => Q .non h', Q, fun _ _ => False, fun x _ h' => X x h'⟩) (es.length + 1)
        [some (.ref hp), z, some (.ref d), some (elV x.el)] h := by
  induction c with
  | @top x m en =>
    intro acc h z g ed ln q
    rw [en]
    refine tC (xV (i := 3) rfl (xN (cNtN ?_)))
    exact sR (xV (i := 2) rfl (q h g (by simpa using ed)))
  | @up x e es m en c ih =>
    intro acc h z g ed ln q
    rw [en]
    refine tC (xV (i := 3) rfl (xN (cNtN ?_)))
    show evB _ _ _ _ _ _
    refine sE_ (xBm (xV (i := 2) rfl ⟨ty_get ed, a1 (xV (i := 3) rfl ⟨_, ed, by show _ < 16777216; simp at ln; rw [List.length_map]; omega, ?_⟩)⟩))
    have u := Up.of (o := .lst (acc.map nmV ++ [.str e.nm])) ed
    have g2 : Gr h0 _ := Gr.up g u (by omega)
    have e1' := g2.get e1
    have e3' := g2.get e3
    refine sAs (by show 3 < 4; decide) (xIdx (xAtV (i := 0) (p := hp) rfl e1' rfl rfl (xV (i := 3) rfl ⟨_, _, e3', (hL e c.mem).1, sEnd ?_⟩)))
    exact ih (acc ++ [e]) _ z g2 (by rw [List.map_append]; exact u.at_) (by simp at ln ⊢; omega) (fun h' g' e' => q h' g' (by rw [List.append_assoc] at e'; exact e'))
theorem s_elders {x : Hs} {es : List Hs} (H : HallO h hp hs) (c : Ch hs x es) (hz : es.length ≤ 900) (q : ∀ h', Gr h h' → h'[h.length]? = some (.lst (es.map nmV)) → Q (.ref h.length) h') : callS sgT (k + 1) (.fn n_Hall_elders) [.ref hp, .str x.nm] h Q X := by
  obtain ⟨oa, ab, ow, hd, kab, kow, khd, e1, e2, ⟨e3, e4, e5⟩, hL⟩ := H.ex
  refine xFn (d := d_Hall_elders) rfl rfl ?_
  refine sAs (by show 2 < 4; decide) (xLst (aN ⟨by decide, fun h1 N => ?_⟩))
  refine sAs (by show 3 < 4; decide) (xIdx (xAtV (i := 0) (p := hp) rfl (N.get e1) rfl rfl (xV (i := 1) rfl ⟨_, _, N.get e3, (hL x c.mem).1, ?_⟩)))
  exact sWhl (es.length + 1) (elders_loop e1 e3 hL rfl c [] h1 _ N.gr N.at_ (by simpa using hz) fun h' g e => q h' g (by simpa using e))
/-- [house] + elders(house) -/
theorem s_line {l : Loc} {x : Hs} {es : List Hs} (h0 : l[0]? = some (some (.ref hp))) (h1 : l[1]? = some (some (.str x.nm))) (H : HallO h hp hs) (c : Ch hs x es) (hz : es.length ≤ 900) (q : ∀ h' a, Gr h h' → h'[a]? = some (.lst ((x :: es).map nmV)) → Q (.ref a) h') :
    evE sgT (callS sgT (k + 1)) X (.bin .add (.lst (.cons (.var 1) .nil)) (.meth (.var 0) n_elders (.cons (.var 1) .nil))) l h Q := by
  refine xBin (xLst (a1 (xV h1 ⟨lz1, fun h2 N => ?_⟩)))
  obtain ⟨oa, ab, ow, hd, kab, kow, khd, e1, e2, ⟨e3, e4, e5⟩, hL⟩ := (H.gr N.gr).ex
  refine xMt (xV h0 ⟨hp, _, _, _, rfl, e1, rfl, a1 (xV h1 ?_)⟩)
  refine s_elders (H.gr N.gr) c hz fun h3 g3 e => ?_
  refine ⟨_, _, g3.get N.at_, e, by show 1 + _ ≤ 16777216; rw [List.length_map]; omega, ?_⟩
  have N4 := Nw.of (h := h3) (o := .lst ([.str x.nm] ++ es.map nmV))
  exact q _ _ (Gr.nw (N.gr.trans g3) N4) N4.at_
/-- the words of one house, looked through -/
theorem fnd_in {w : Str} {nm : PV} {hpv x1 : Option PV} {D : En} {live : PH → Prop} {hh : PH} (hl : live hh) : ∀ (ws : List Wd) (m : Nat) (a b : Option PV), (∀ i, wix w ws = some i → D.rt (.tup [nm, .int ((m + i : Nat) : Int)]) hh) → (wix w ws = none → ∀ a b, D.nx [hpv, x1, some (.str w), some nm, a, b] hh) →
    iterL live (fun v l' h' K => evG sgT (callS sgT k) (fun x h' => D.ex x l' h') (.tup (.cons (.nm 4) (.cons (.nm 5) .nil))) v l' h' fun l2 h2 => evB sgT (callS sgT k) (.cons (.ife (.cmp .eq (.idx (.var 5) (.int 0)) (.var 2)) (.cons (.ret (.tup (.cons (.var 3) (.cons (.var 4) .nil)))) .nil) .nil) .nil) l2 h2 { D with nx := K, ct := K }) D.nx
      (enumFrom m (ws.map hdV)) [hpv, x1, some (.str w), some nm, a, b] hh
  | [], m, a, b, hY, hN => ⟨hl, hN rfl a b⟩
  | y :: ws, m, a, b, hY, hN => by
    refine ⟨hl, _, rfl, rfl, _, _, rfl, ⟨by show 4 < 6; decide, _, _, rfl, ⟨by show 5 < 6; decide, rfl, ?_⟩⟩⟩
    by_cases e : y.nm = w
    · refine sIf (r := true) (tC (xIdx (xV (i := 5) rfl (xI ⟨_, rfl, xV (i := 2) rfl (cEqT ⟨by simp [e], ?_⟩)⟩))))
      refine sR (xTup (aC (xV (i := 3) rfl (a1 (xV (i := 4) rfl ⟨lz2, ?_⟩)))))
      exact hY 0 (by simp [wix, e])
    · refine sIf (r := false) (tC (xIdx (xV (i := 5) rfl (xI ⟨_, rfl, xV (i := 2) rfl (cEqT ⟨by simp [e], ?_⟩)⟩))))
      refine sEnd ?_
      refine fnd_in hl ws (m + 1) _ _ (fun i hi => ?_) fun hi => ?_
      · have z := hY (i + 1) (by simp [wix, e, hi])
        rw [show m + (i + 1) = m + 1 + i by omega] at z
        exact z
      · exact hN (by simp [wix, e, hi])
theorem fnd_loop {w : Str} {x1 : Option PV} {D : En} {live : PH → Prop} {oa ab ow hd : Nat} {kab kow khd : List (PV × PV)} {hh : PH} (e1 : hh[hp]? = some (.ins n_Hall [(n_order, .ref oa), (n_above, .ref ab), (n_own, .ref ow), (n_heads, .ref hd)])) (e5 : hh[hd]? = some (.dic khd)) (hL : HL 0 hh hs kab kow khd) (hl : live hh) :
    ∀ (xs : List Hs) (a b c : Option PV), (∀ x ∈ xs, x ∈ hs) → (∀ p, fnd w xs = some p → D.rt (spV (some p)) hh) → (fnd w xs = none → ∀ a b c, D.nx [some (.ref hp), x1, some (.str w), a, b, c] hh) →
    iterL live (fun v l' h' K => evG sgT (callS sgT k) (fun x h' => D.ex x l' h') (.nm 3) v l' h' fun l2 h2 => evB sgT (callS sgT k) (.cons (.for (.tup (.cons (.nm 4) (.cons (.nm 5) .nil))) (.enu (.idx (.attr (.var 0) n_heads) (.var 3))) (.cons (.ife (.cmp .eq (.idx (.var 5) (.int 0)) (.var 2)) (.cons (.ret (.tup (.cons (.var 3) (.cons (.var 4) .nil)))) .nil) .nil) .nil)) .nil) l2 h2 { D with nx := K, ct := K }) D.nx
      (xs.map nmV) [some (.ref hp), x1, some (.str w), a, b, c] hh
  | [], a, b, c, hm, hY, hN => ⟨hl, hN rfl a b c⟩
  | x :: xs, a, b, c, hm, hY, hN => by
    obtain ⟨_, _, u, _, d2, d3⟩ := hL x (hm x (List.mem_cons_self ..))
    refine ⟨hl, by show 3 < 6; decide, ?_⟩
    refine sFor ?_
    show evE sgT (callS sgT k) _ (.idx (.attr (.var 0) n_heads) (.var 3)) _ _ _
    refine xIdx (xAtV (i := 0) (p := hp) rfl e1 rfl rfl (xV (i := 3) rfl ⟨_, _, e5, d2, _, lst_got d3, ?_⟩))
    refine fnd_in (lst_got d3) x.ws 0 _ _ (fun i hi => ?_) fun hi a b => ?_
    · rw [Nat.zero_add]
      exact hY (x, i) (by simp [fnd, hi])
    · refine fnd_loop e1 e5 hL hl xs _ _ _ (fun y my => hm y (List.mem_cons_of_mem _ my)) (fun p hp' => hY p (by simp [fnd, hi, hp'])) fun hn => hN (by simp [fnd, hi, hn])
theorem s_found {x : Hs} {es : List Hs} {w : Str} (H : HallO h hp hs) (c : Ch hs x es) (hz : es.length ≤ 900) (q : ∀ h', Gr h h' → Q (spV (fnd w (x :: es))) h') : callS sgT (k + 2) (.fn n_Hall_found) [.ref hp, .str x.nm, .str w] h Q X := by
  refine xFn (d := d_Hall_found) rfl rfl ?_
  refine sFor (iSeq (s_line rfl rfl H c hz fun h' a g e => ⟨lst_got e, ?_⟩))
  obtain ⟨oa, ab, ow, hd, kab, kow, khd, e1, e2, ⟨e3, e4, e5⟩, hL⟩ := (H.gr g).ex
  refine fnd_loop e1 e5 hL (lst_got e) (x :: es) _ _ _ (fun y my => ?_) (fun p hp' => ?_) fun hn a b c => ?_
  · rcases List.mem_cons.mp my with rfl | my
    · exact c.mem
    · exact c.all y my
  · have z := q h' g; rw [hp'] at z; exact z
  · have z := q h' g; rw [hn] at z; exact z
/-- all fields, the farthest elder's first -/
theorem s_fields {x : Hs} {es : List Hs} (H : HallO h hp hs) (c : Ch hs x es) (hz : es.length ≤ 900) (hf : (flds (x :: es)).length ≤ 900) (q : ∀ h' a, Gr h h' → h'[a]? = some (.lst ((flds (x :: es)).map prV)) → Q (.ref a) h') : callS sgT (k + 2) (.fn n_Hall_fields) [.ref hp, .str x.nm] h Q X := by
  refine xFn (d := d_Hall_fields) rfl rfl ?_
  refine sAs (by show 2 < 4; decide) (xLst (aN ⟨by decide, fun h1 N => ?_⟩))
  refine sFor ?_
  show evE sgT (callS sgT (k + 1)) _ (.bin .add (.lst (.cons (.var 1) .nil)) (.meth (.var 0) n_elders (.cons (.var 1) .nil))) _ _ _
  refine s_line rfl rfl (H.gr N.gr) c hz fun h2 a g e => ⟨_, lst_got e, ?_⟩
  have g2 : Gr h h2 := N.gr.trans g
  obtain ⟨oa, ab, ow, hd, kab, kow, khd, e1, e2, ⟨e3, e4, e5⟩, hL⟩ := H.ex
  rw [← List.map_reverse]
  have ha : a ≠ h.length := fun z => by
    rw [z, g.get N.at_] at e; cases e
  refine iter_invN (fun i l' h' => (∃ z, l' = [some (.ref hp), some (.str x.nm), some (.ref h.length), z]) ∧ Stays [h.length] h2 h' ∧ h'[h.length]? = some (.lst (((x :: es).reverse.take i).flatMap (·.fs) |>.map prV))) (fun i l' h' iv => lst_got (iv.2.1.at_ _ _ (by simpa using ha) e)) _ 0 (fun i v ev l' h' K iv hK => ?_) (fun l' h' iv => ?_) _ h2 ⟨⟨_, rfl⟩, Stays.refl, g.get N.at_⟩
  · obtain ⟨⟨z, rfl⟩, s, eo⟩ := iv
    rw [List.getElem?_map] at ev
    cases et : (x :: es).reverse[i]? with
    | none => rw [et] at ev; cases ev
    | some y =>
      rw [et] at ev
      cases (show nmV y = v from Option.some.inj ev)
      have my : y ∈ hs := by
        have := List.mem_reverse.mp (List.mem_of_getElem? et)
        rcases List.mem_cons.mp this with rfl | my
        · exact c.mem
        · exact c.all y my
      obtain ⟨_, ⟨u, _, d2, d3⟩, _⟩ := hL y my
      have up : ∀ {a : Nat} {o : PO}, h[a]? = some o → h'[a]? = some o := fun {a o} e => s.at_ _ _ (by have := lt_of e; simp; omega) (g2.get e)
      refine ⟨by show 3 < 4; decide, ?_⟩
      refine sE_ (xBm (xV (i := 2) rfl ⟨ty_get eo, a1 (xIdx (xAtV (i := 0) (p := hp) rfl (up e1) rfl rfl (xV (i := 3) rfl ⟨_, _, up e4, d2, ?_⟩)))⟩))
      refine ⟨_, _, eo, up d3, ?_, ?_⟩
      · show _ ≤ 16777216
        have z1 : (((x :: es).reverse.take (0 + i)).flatMap (·.fs)).length + y.fs.length ≤ (flds (x :: es)).length := by
          have e1 : (x :: es).reverse = (x :: es).reverse.take (0 + i) ++ y :: (x :: es).reverse.drop (i + 1) := by
            rw [Nat.zero_add]
            exact (List.take_append_drop i _).symm.trans (by rw [drop_cons et])
          show _ ≤ ((x :: es).reverse.flatMap (·.fs)).length
          conv => rhs; rw [e1]
          rw [List.flatMap_append, List.length_append, List.flatMap_cons, List.length_append]; omega
        rw [List.length_map, List.length_map]; omega
      · have u := Up.of (o := .lst ((((x :: es).reverse.take (0 + i)).flatMap (·.fs)).map prV ++ y.fs.map prV)) eo
        refine sEnd (hK _ _ ⟨⟨_, rfl⟩, s.trans (u.stays (by simp)), ?_⟩)
        rw [show (x :: es).reverse.take (0 + i + 1) = (x :: es).reverse.take (0 + i) ++ [y] by rw [Nat.zero_add, List.take_succ, et]; rfl, List.flatMap_append, List.map_append]
        simpa using u.at_
  · obtain ⟨⟨z, rfl⟩, s, eo⟩ := iv
    rw [List.length_map, Nat.zero_add, List.take_length] at eo
    exact sR (xV (i := 2) rfl (q h' _ (Stays.gr g2 s (by simp)) eo))
theorem plc_in {w : Str} {D : En} {live : PH → Prop} {hh : PH} {h1 h2 : Option PV} (hl : live hh) : ∀ (fs : List (Str × Str)) (m : Nat) (a b : Option PV), (∀ i, plc w fs = some i → D.rt (.int ((m + i : Nat) : Int)) hh) → (plc w fs = none → ∀ a b, D.nx [h1, h2, some (.str w), a, b] hh) →
    iterL live (fun v l' h' K => evG sgT (callS sgT k) (fun x h' => D.ex x l' h') (.tup (.cons (.nm 3) (.cons (.nm 4) .nil))) v l' h' fun l2 h2 => evB sgT (callS sgT k) (.cons (.ife (.cmp .eq (.idx (.var 4) (.int 0)) (.var 2)) (.cons (.ret (.var 3)) .nil) .nil) .nil) l2 h2 { D with nx := K, ct := K }) D.nx
      (enumFrom m (fs.map prV)) [h1, h2, some (.str w), a, b] hh
  | [], m, a, b, hY, hN => ⟨hl, hN rfl a b⟩
  | y :: fs, m, a, b, hY, hN => by
    refine ⟨hl, _, rfl, rfl, _, _, rfl, ⟨by show 3 < 5; decide, _, _, rfl, ⟨by show 4 < 5; decide, rfl, ?_⟩⟩⟩
    by_cases e : y.1 = w
    · refine sIf (r := true) (tC (xIdx (xV (i := 4) rfl (xI ⟨_, rfl, xV (i := 2) rfl (cEqT ⟨by simp [e], ?_⟩)⟩))))
      exact sR (xV (i := 3) rfl (hY 0 (by simp [plc, e])))
    · refine sIf (r := false) (tC (xIdx (xV (i := 4) rfl (xI ⟨_, rfl, xV (i := 2) rfl (cEqT ⟨by simp [e], ?_⟩)⟩))))
      refine sEnd ?_
      refine plc_in hl fs (m + 1) _ _ (fun i hi => ?_) fun hi => ?_
      · have z := hY (i + 1) (by simp [plc, e, hi])
        rw [show m + (i + 1) = m + 1 + i by omega] at z
        exact z
      · exact hN (by simp [plc, e, hi])
theorem s_place {x : Hs} {es : List Hs} {f : Str} {i : Nat} (H : HallO h hp hs) (c : Ch hs x es) (hz : es.length ≤ 900) (hf : (flds (x :: es)).length ≤ 900) (e : plc f (flds (x :: es)) = some i) (q : ∀ h', Gr h h' → Q (.int i) h') : callS sgT (k + 3) (.fn n_Hall_place) [.ref hp, .str x.nm, .str f] h Q X := by
  refine xFn (d := d_Hall_place) rfl rfl ?_
  obtain ⟨oa, ab, ow, hd, kab, kow, khd, e1, _⟩ := H.ex
  refine sFor ?_
  show evE sgT (callS sgT (k + 2)) _ (.meth (.var 0) n_fields (.cons (.var 1) .nil)) _ _ _
  refine xMt (xV (i := 0) rfl ⟨hp, _, _, _, rfl, e1, rfl, a1 (xV (i := 1) rfl (s_fields H c hz hf fun h' a g ea => ⟨_, lst_got ea, ?_⟩))⟩)
  refine plc_in (lst_got ea) _ 0 _ _ (fun j hj => ?_) fun hj => ?_
  · rw [e] at hj; cases hj
    rw [Nat.zero_add]; exact q h' g
  · rw [e] at hj; cases hj
end
end Py

set_option Elab.async false
set_option linter.all false
set_option maxRecDepth 100000
set_option maxHeartbeats 4000000
/-! The walk: its state, its turns. -/
namespace Py
open PySem
/-- what a walk never changes -/
structure WC where
  w : Nat
  wl : Nat
  ml : Nat
  hp : Nat
  wb : Nat
  most : Int
  hs : List Hs
/-- what it changes -/
structure WS where
  due : PV
  got : PV
  ended : PV
  bd : Nat
  own : PV
  home : PV
  opn : Int
  cnt : Int
  ws : List PV
  ms : List PV
def wf (C : WC) (s : WS) : List (Nat × PV) := [(n_hall, .ref C.hp), (n_words_by, .ref C.wb), (n_most, .int C.most), (n_made, .ref C.ml), (n_counted, .int s.cnt), (n_open_calls, .int s.opn), (n_waiting, .ref C.wl), (n_bound, .ref s.bd), (n_own, s.own), (n_home, s.home), (n_due, s.due), (n_got, s.got), (n_ended, s.ended)]
/-- what stood before the walk -/
structure WG (C : WC) (hg : PH) : Prop where
  hall : HallO hg C.hp C.hs
  words : ∃ kwb, hg[C.wb]? = some (.dic kwb) ∧ ∀ x ∈ C.hs, ∃ a tv, lookD (.str x.nm) kwb = some (.ref a) ∧ hg[a]? = some (.lst tv) ∧ WT 0 hg x.ws tv
  fw : hg[C.w]? = some (.frl [])
  fl : hg[C.wl]? = some (.frl [])
  fm : hg[C.ml]? = some (.frl [])
  ne : C.wl ≠ C.ml
abbrev Fx (C : WC) (h h' : PH) : Prop := Stays [C.w, C.wl, C.ml] h h'
structure WK (C : WC) (hg h : PH) (s : WS) : Prop where
  gd : Fm 0 0 hg h
  ob : h[C.w]? = some (.ins n_Walk (wf C s))
  lw : h[C.wl]? = some (.lst s.ws)
  lm : h[C.ml]? = some (.lst s.ms)
  ln : hg.length ≤ h.length
theorem Fx.gd {C : WC} {hg h h' : PH} (G : WG C hg) (g : Fm 0 0 hg h) (f : Fx C h h') : Fm 0 0 hg h' := ⟨Nat.le_refl _, fun a o _ fr e => f.at_ a o (fun m => by
  simp only [List.mem_cons, List.not_mem_nil, or_false] at m
  rcases m with rfl | rfl | rfl
  · rw [G.fw] at e; cases e; cases fr
  · rw [G.fl] at e; cases e; cases fr
  · rw [G.fm] at e; cases e; cases fr) (g.at_ a o (Nat.zero_le _) fr e)⟩
section
variable {C : WC} {hg h h' : PH} {s s' : WS}
theorem WK.nw {o : PO} (W : WK C hg h s) (G : WG C hg) (u : Nw h o h') : WK C hg h' s := ⟨Fx.gd G W.gd u.stays, u.get W.ob, u.get W.lw, u.get W.lm, by rw [u.len]; exact Nat.le_succ_of_le W.ln⟩
theorem WK.fx (W : WK C hg h s) (G : WG C hg) (g : Gr h h') : WK C hg h' s := ⟨Fx.gd G W.gd g.stays, g.get W.ob, g.get W.lw, g.get W.lm, Nat.le_trans W.ln g.le⟩
theorem WK.nwl (W : WK C hg h s) : C.w ≠ C.wl := fun z => by have := W.ob; rw [z, W.lw] at this; cases this
theorem WK.nml (W : WK C hg h s) : C.w ≠ C.ml := fun z => by have := W.ob; rw [z, W.lm] at this; cases this
theorem WK.ow (W : WK C hg h s) (G : WG C hg) (u : Up h C.w (.ins n_Walk (wf C s')) h') (e1 : s'.ws = s.ws) (e2 : s'.ms = s.ms) : WK C hg h' s' ∧ Fx C h h' :=
  ⟨⟨Fx.gd G W.gd (u.stays (by simp)), u.at_, by rw [e1]; exact u.get W.nwl.symm W.lw, by rw [e2]; exact u.get W.nml.symm W.lm, by rw [u.len]; exact W.ln⟩, u.stays (by simp)⟩
theorem WK.ol {ws : List PV} (W : WK C hg h s) (G : WG C hg) (u : Up h C.wl (.lst ws) h') : WK C hg h' { s with ws := ws } ∧ Fx C h h' :=
  ⟨⟨Fx.gd G W.gd (u.stays (by simp)), u.get W.nwl W.ob, u.at_, u.get G.ne.symm W.lm, by rw [u.len]; exact W.ln⟩, u.stays (by simp)⟩
theorem WK.om {ms : List PV} (W : WK C hg h s) (G : WG C hg) (u : Up h C.ml (.lst ms) h') : WK C hg h' { s with ms := ms } ∧ Fx C h h' :=
  ⟨⟨Fx.gd G W.gd (u.stays (by simp)), u.get W.nml W.ob, u.get G.ne W.lw, u.at_, by rw [u.len]; exact W.ln⟩, u.stays (by simp)⟩
/-- an object that came later is put for -/
theorem WK.oth {a : Nat} {o : PO} (W : WK C hg h s) (u : Up h a o h') (na : hg.length ≤ a) (n1 : a ≠ C.w) (n2 : a ≠ C.wl) (n3 : a ≠ C.ml) : WK C hg h' s :=
  ⟨⟨Nat.le_refl _, fun b v _ fr e => u.get (by have := lt_of e; omega) (W.gd.at_ b v (Nat.zero_le _) fr e)⟩, u.get n1.symm W.ob, u.get n2.symm W.lw, u.get n3.symm W.lm, by rw [u.len]; exact W.ln⟩
theorem Fx.nw {h1 : PH} {o : PO} (f : Fx C h h') (u : Nw h' o h1) : Fx C h h1 := f.trans u.stays
/-- an object that is none of the walk's own is left alone -/
theorem Fx.keep {a : Nat} {o : PO} (f : Fx C h h') (W : WK C hg h s) (e : h[a]? = some o) (n1 : a ≠ C.w) (n2 : a ≠ C.wl) (n3 : a ≠ C.ml) : h'[a]? = some o := f.at_ _ _ (by simp [n1, n2, n3]) e
theorem WK.ins_ne {a c : Nat} {fs : List (Nat × PV)} (W : WK C hg h s) (e : h[a]? = some (.ins c fs)) (nc : c ≠ n_Walk) : a ≠ C.w ∧ a ≠ C.wl ∧ a ≠ C.ml :=
  ⟨fun z => (by rw [z, W.ob] at e; cases e; exact nc rfl), fun z => (by rw [z, W.lw] at e; cases e), fun z => (by rw [z, W.lm] at e; cases e)⟩
theorem Fx.ins {a c : Nat} {fs : List (Nat × PV)} (f : Fx C h h') (W : WK C hg h s) (e : h[a]? = some (.ins c fs)) (nc : c ≠ n_Walk) : h'[a]? = some (.ins c fs) :=
  let ⟨a1, a2, a3⟩ := W.ins_ne e nc; f.keep W e a1 a2 a3
end
/-! ### the loop of walked -/
def b_walk_loop : B := .cons (.exp (.meth (.var 3) n_goes .nil)) .nil
def b_walk_rest : B := .cons (.ret (.tup (.cons (.attr (.var 3) n_ended) (.cons (.attr (.var 3) n_counted) (.cons (.bf .list1 (.cons (.attr (.var 3) n_made) .nil)) .nil))))) .nil
/-- n turns more come to the end -/
def Go (k : Nat) (l : Loc) (D : En) (n : Nat) (h : PH) : Prop := whlN (fun l' h' K => evT sgT (callS sgT k) (fun x h' => D.ex x l' h') (.cmp .isN (.attr (.var 3) n_ended) .non) l' h' fun r h1 => if r = true then evB sgT (callS sgT k) b_walk_loop l' h1 { D with nx := K, ct := K } else evB sgT (callS sgT k) b_walk_rest l' h1 D) n l h
section
variable {C : WC} {hg h h' : PH} {s s' : WS} {k n : Nat} {l : Loc} {D : En} {X : KX}
theorem go_step (hl : l[3]? = some (some (.ref C.w))) (W : WK C hg h s) (en : s.ended = .non) (q : callS sgT k (.fn n_Walk_goes) [.ref C.w] h (fun _ h' => Go k l D n h') (fun x h' => D.ex x l h')) : Go k l D (n + 1) h := by
  refine tC (xAtV (i := 3) (p := C.w) hl W.ob rfl rfl (xN (cIsN ?_)))
  rw [en]
  show evB sgT (callS sgT k) b_walk_loop l h _
  exact sE_ (xMt (xV hl ⟨C.w, _, _, _, rfl, W.ob, rfl, aN q⟩))
theorem go_end (hl : l[3]? = some (some (.ref C.w))) (W : WK C hg h s) (en : isNonB s.ended = false) (q : evB sgT (callS sgT k) b_walk_rest l h D) : Go k l D (n + 1) h := by
  refine tC (xAtV (i := 3) (p := C.w) hl W.ob rfl rfl (xN (cIsN ?_)))
  rw [en]
  exact q
/-- a turn that begins a term -/
theorem go_due {p c f : Nat} {fs : List (Nat × PV)} (hl : l[3]? = some (some (.ref C.w))) (G : WG C hg) (W : WK C hg h s) (en : s.ended = .non) (ed : s.due = .ref p) (ep : h[p]? = some (.ins c fs)) (nc : c ≠ n_Walk) (hm : mth sgT c n_meet = some f)
    (q : ∀ h', Fx C h h' → WK C hg h' { s with due := .non } → callS sgT (k + 1) (.fn f) [.ref p, .ref C.w] h' (fun _ h'' => Go (k + 2) l D n h'') (fun x h' => D.ex x l h')) : Go (k + 2) l D (n + 1) h := by
  refine go_step hl W en (xFn (d := d_Walk_goes) rfl rfl ?_)
  refine sIf (r := true) (tC (xAtV (i := 0) (p := C.w) rfl W.ob rfl rfl (xN (cNtN ?_))))
  rw [ed]
  refine ⟨rfl, ?_⟩
  refine sAs (by show 1 < 2; decide) (xAtV (i := 0) (p := C.w) rfl W.ob rfl rfl ?_)
  rw [ed]
  refine sF (i := 0) (p := C.w) rfl (xN ⟨_, _, W.ob, rfl, by show (13 : Nat) < 900; omega, fun h1 u => ?_⟩)
  have u : Up h C.w (.ins n_Walk (wf C { s with due := .non })) h1 := u
  obtain ⟨W1, F1⟩ := W.ow G u rfl rfl
  refine sE_ (xMt (xV (i := 1) rfl ⟨p, _, _, _, rfl, F1.ins W ep nc, hm, a1 (xV (i := 0) rfl (cM (q h1 F1 W1) fun _ _ z => z))⟩))
/-- a turn that hands a value to who waits -/
theorem go_pop {g c f : Nat} {fs : List (Nat × PV)} {ws : List PV} (hl : l[3]? = some (some (.ref C.w))) (G : WG C hg) (W : WK C hg h s) (en : s.ended = .non) (ed : s.due = .non) (ew : s.ws = ws ++ [.ref g]) (ep : h[g]? = some (.ins c fs)) (nc : c ≠ n_Walk) (hm : mth sgT c n_goes_on = some f)
    (q : ∀ h', Fx C h h' → WK C hg h' { s with ws := ws } → callS sgT (k + 1) (.fn f) [.ref g, .ref C.w, s.got] h' (fun _ h'' => Go (k + 2) l D n h'') (fun x h' => D.ex x l h')) : Go (k + 2) l D (n + 1) h := by
  refine go_step hl W en (xFn (d := d_Walk_goes) rfl rfl ?_)
  refine sIf (r := false) (tC (xAtV (i := 0) (p := C.w) rfl W.ob rfl rfl (xN (cNtN ?_))))
  rw [ed]
  refine ⟨rfl, ?_⟩
  refine sIf (r := true) (tC (xAtV (i := 0) (p := C.w) rfl W.ob rfl rfl (xLst (aN ⟨by show 0 ≤ 16777216; decide, fun h1 N => ?_⟩))))
  refine ne_nil (lst_got (N.get W.lw)) (lst_got N.at_) ⟨by rw [ew]; simp, ?_⟩
  have W1 := W.nw G N
  refine sE_ (xMt (xBm (xAtV (i := 0) (p := C.w) rfl W1.ob rfl rfl ⟨ty_get W1.lw, aN ⟨_, .ref g, W1.lw, by rw [ew]; simp, ?_⟩⟩)))
  rw [show s.ws.dropLast = ws by rw [ew]; simp]
  have u := Up.of (o := .lst ws) W1.lw
  obtain ⟨W2, F2⟩ := W1.ol G u
  have F : Fx C h _ := (Stays.trans N.stays F2)
  refine ⟨g, _, _, _, rfl, F.ins W ep nc, hm, aC (xV (i := 0) rfl (a1 (xAtV (i := 0) (p := C.w) rfl W2.ob rfl rfl (cM (q _ F W2) fun _ _ z => z))))⟩
end
end Py

set_option Elab.async false
set_option linter.all false
set_option maxRecDepth 100000
set_option maxHeartbeats 4000000
/-! The walk's parts: terms without parts, who gathers values. -/
namespace Py
open PySem
abbrev Bd := List (Str × PV)
def bV (b : Str × PV) : PV := .tup [.str b.1, b.2]
/-- the last binding of a name -/
def lkB (s : Str) : Bd → Option PV
  | [] => none
  | (x, v) :: r => match lkB s r with
    | some u => some u
    | none => if x = s then some v else none
section
variable {C : WC} {hg h h' : PH} {s s' : WS} {k n : Nat} {l : Loc} {D : En} {X : KX} {Q : KQ}
theorem go_at {p c f m a : Nat} {fs : List (Nat × PV)} (hl : l[3]? = some (some (.ref C.w))) (G : WG C hg) (W : WK C hg h s) (en : s.ended = .non) (ed : s.due = .ref p) (ep : h[p]? = some (.ins c fs)) (nc : c ≠ n_Walk) (hm : mth sgT c n_meet = some f)
    (hd : sgT.fn f = some ⟨2, 2, .cons (.ret (.meth (.var 1) m (.cons (.var 0) .nil))) .nil, [], none⟩) (ha : mth sgT n_Walk m = some a)
    (q : ∀ h', Fx C h h' → WK C hg h' { s with due := .non } → callS sgT (k + 10) (.fn a) [.ref C.w, .ref p] h' (fun _ h'' => Go (k + 12) l D n h'') (fun x h' => D.ex x l h')) : Go (k + 12) l D (n + 1) h := by
  refine go_due hl G W en ed ep nc hm fun h1 F1 W1 => ?_
  refine xFn hd rfl ?_
  exact sR (xMt (xV (i := 1) rfl ⟨C.w, _, _, _, rfl, W1.ob, ha, a1 (xV (i := 0) rfl (cM (q h1 F1 W1) fun _ _ z => z))⟩))
/-- a field of the walk is set to a value that is at hand -/
theorem set_got {i : Nat} {e : E} {b : B} {l' : Loc} {D' : En} {v : PV} (G : WG C hg) (W : WK C hg h s) (hi : l'[i]? = some (some (.ref C.w))) (he : ∀ R : KQ, R v h → evE sgT (callS sgT k) (fun x h' => D'.ex x l' h') e l' h R) (q : ∀ h2, Fx C h h2 → WK C hg h2 { s with got := v } → evB sgT (callS sgT k) b l' h2 D') :
    evB sgT (callS sgT k) (.cons (.asg (.attr (.var i) n_got) e) b) l' h D' := by
  refine sF hi (he _ ⟨_, _, W.ob, rfl, by show (13 : Nat) < 900; omega, fun h2 u => ?_⟩)
  have u : Up h C.w (.ins n_Walk (wf C { s with got := v })) h2 := u
  obtain ⟨W1, F1⟩ := W.ow G u rfl rfl
  exact q h2 F1 W1
theorem set_due {i : Nat} {e : E} {b : B} {l' : Loc} {D' : En} {v : PV} (G : WG C hg) (W : WK C hg h s) (hi : l'[i]? = some (some (.ref C.w))) (he : ∀ R : KQ, R v h → evE sgT (callS sgT k) (fun x h' => D'.ex x l' h') e l' h R) (q : ∀ h2, Fx C h h2 → WK C hg h2 { s with due := v } → evB sgT (callS sgT k) b l' h2 D') :
    evB sgT (callS sgT k) (.cons (.asg (.attr (.var i) n_due) e) b) l' h D' := by
  refine sF hi (he _ ⟨_, _, W.ob, rfl, by show (13 : Nat) < 900; omega, fun h2 u => ?_⟩)
  have u : Up h C.w (.ins n_Walk (wf C { s with due := v })) h2 := u
  obtain ⟨W1, F1⟩ := W.ow G u rfl rfl
  exact q h2 F1 W1
theorem set_ended {i : Nat} {e : E} {b : B} {l' : Loc} {D' : En} {v : PV} (G : WG C hg) (W : WK C hg h s) (hi : l'[i]? = some (some (.ref C.w))) (he : ∀ R : KQ, R v h → evE sgT (callS sgT k) (fun x h' => D'.ex x l' h') e l' h R) (q : ∀ h2, Fx C h h2 → WK C hg h2 { s with ended := v } → evB sgT (callS sgT k) b l' h2 D') :
    evB sgT (callS sgT k) (.cons (.asg (.attr (.var i) n_ended) e) b) l' h D' := by
  refine sF hi (he _ ⟨_, _, W.ob, rfl, by show (13 : Nat) < 900; omega, fun h2 u => ?_⟩)
  have u : Up h C.w (.ins n_Walk (wf C { s with ended := v })) h2 := u
  obtain ⟨W1, F1⟩ := W.ow G u rfl rfl
  exact q h2 F1 W1
theorem set_own {i : Nat} {e : E} {b : B} {l' : Loc} {D' : En} {v : PV} (G : WG C hg) (W : WK C hg h s) (hi : l'[i]? = some (some (.ref C.w))) (he : ∀ R : KQ, R v h → evE sgT (callS sgT k) (fun x h' => D'.ex x l' h') e l' h R) (q : ∀ h2, Fx C h h2 → WK C hg h2 { s with own := v } → evB sgT (callS sgT k) b l' h2 D') :
    evB sgT (callS sgT k) (.cons (.asg (.attr (.var i) n_own) e) b) l' h D' := by
  refine sF hi (he _ ⟨_, _, W.ob, rfl, by show (13 : Nat) < 900; omega, fun h2 u => ?_⟩)
  have u : Up h C.w (.ins n_Walk (wf C { s with own := v })) h2 := u
  obtain ⟨W1, F1⟩ := W.ow G u rfl rfl
  exact q h2 F1 W1
theorem set_home {i : Nat} {e : E} {b : B} {l' : Loc} {D' : En} {v : PV} (G : WG C hg) (W : WK C hg h s) (hi : l'[i]? = some (some (.ref C.w))) (he : ∀ R : KQ, R v h → evE sgT (callS sgT k) (fun x h' => D'.ex x l' h') e l' h R) (q : ∀ h2, Fx C h h2 → WK C hg h2 { s with home := v } → evB sgT (callS sgT k) b l' h2 D') :
    evB sgT (callS sgT k) (.cons (.asg (.attr (.var i) n_home) e) b) l' h D' := by
  refine sF hi (he _ ⟨_, _, W.ob, rfl, by show (13 : Nat) < 900; omega, fun h2 u => ?_⟩)
  have u : Up h C.w (.ins n_Walk (wf C { s with home := v })) h2 := u
  obtain ⟨W1, F1⟩ := W.ow G u rfl rfl
  exact q h2 F1 W1
theorem set_bound {i a : Nat} {e : E} {b : B} {l' : Loc} {D' : En} (G : WG C hg) (hi : l'[i]? = some (some (.ref C.w))) (he : evE sgT (callS sgT k) (fun x h' => D'.ex x l' h') e l' h fun v h1 => ∃ a, v = .ref a ∧ WK C hg h1 s ∧ ∀ h2, Fx C h1 h2 → WK C hg h2 { s with bd := a } → evB sgT (callS sgT k) b l' h2 D') :
    evB sgT (callS sgT k) (.cons (.asg (.attr (.var i) n_bound) e) b) l' h D' := by
  refine sF hi (mE_ he fun v h1 q => ?_)
  obtain ⟨a, rfl, W, q⟩ := q
  refine ⟨_, _, W.ob, rfl, by show (13 : Nat) < 900; omega, fun h2 u => ?_⟩
  have u : Up h1 C.w (.ins n_Walk (wf C { s with bd := a })) h2 := u
  obtain ⟨W1, F1⟩ := W.ow G u rfl rfl
  exact q h2 F1 W1
/-- walk.waiting.append(e) -/
theorem put_wait {i : Nat} {e : E} {b : B} {l' : Loc} {D' : En} (G : WG C hg) (W : WK C hg h s) (hi : l'[i]? = some (some (.ref C.w))) (hz : s.ws.length < 1000000) (he : evE sgT (callS sgT k) (fun x h' => D'.ex x l' h') e l' h fun v h1 => Gr h h1 ∧ ∀ h2, Fx C h1 h2 → WK C hg h2 { s with ws := s.ws ++ [v] } → evB sgT (callS sgT k) b l' h2 D') :
    evB sgT (callS sgT k) (.cons (.exp (.bm .append (.attr (.var i) n_waiting) (.cons e .nil))) b) l' h D' := by
  refine sE_ (xBm (xAtV hi W.ob rfl rfl ⟨ty_get W.lw, a1 (mE_ he fun v h1 q => ?_)⟩))
  obtain ⟨g, q⟩ := q
  have W1 := W.fx G g
  have u := Up.of (o := .lst (s.ws ++ [v])) W1.lw
  obtain ⟨W2, F2⟩ := W1.ol G u
  exact ⟨_, W1.lw, by show _ < 16777216; omega, q _ F2 W2⟩
/-! ### terms without parts -/
theorem s_at_number {p : Nat} {i : Int} (G : WG C hg) (W : WK C hg h s) (to : TO 0 hg (.num i) p) (q : ∀ h', Fx C h h' → WK C hg h' { s with got := .int i } → Q .non h') : callS sgT (k + 1) (.fn n_Walk_at_number) [.ref C.w, .ref p] h Q X := by
  obtain ⟨il, a, b, _, _, e, _⟩ := to
  have e := W.gd.at_ _ _ (Nat.zero_le _) rfl e
  exact xFn (d := d_Walk_at_number) rfl rfl (set_got G W rfl (fun R r => xAtV (i := 1) rfl e rfl rfl r) fun h2 F2 W2 => sEnd (q h2 F2 W2))
theorem s_at_truth {p : Nat} {i : Bool} (G : WG C hg) (W : WK C hg h s) (to : TO 0 hg (.tru i) p) (q : ∀ h', Fx C h h' → WK C hg h' { s with got := .bl i } → Q .non h') : callS sgT (k + 1) (.fn n_Walk_at_truth) [.ref C.w, .ref p] h Q X := by
  obtain ⟨il, a, b, _, _, e, _⟩ := to
  have e := W.gd.at_ _ _ (Nat.zero_le _) rfl e
  exact xFn (d := d_Walk_at_truth) rfl rfl (set_got G W rfl (fun R r => xAtV (i := 1) rfl e rfl rfl r) fun h2 F2 W2 => sEnd (q h2 F2 W2))
theorem s_at_self {p : Nat} (G : WG C hg) (W : WK C hg h s) (q : ∀ h', Fx C h h' → WK C hg h' { s with got := s.own } → Q .non h') : callS sgT (k + 1) (.fn n_Walk_at_self) [.ref C.w, .ref p] h Q X :=
  xFn (d := d_Walk_at_self) rfl rfl (set_got G W rfl (fun R r => xAtV (i := 0) rfl W.ob rfl rfl r) fun h2 F2 W2 => sEnd (q h2 F2 W2))
theorem names_loop {p : Nat} {nm : Str} {fs : List (Nat × PV)} {c : Nat} {items : List PV} {D' : En} (G : WG C hg) (nc : c ≠ n_Walk) (ec : fld sgT c n_called = true) (eg : getN n_called fs = some (.str nm)) (bn : s.bd ≠ C.w ∧ s.bd ≠ C.wl ∧ s.bd ≠ C.ml) :
    ∀ (bd : Bd) (h : PH) (a b v : Option PV) (s1 : WS), s1.bd = s.bd → h[p]? = some (.ins c fs) → WK C hg h s1 → h[s.bd]? = some (.lst items) → (∀ h' a b, Fx C h h' → WK C hg h' { s1 with got := (lkB nm bd).getD s1.got } → D'.nx [some (.ref C.w), some (.ref p), a, b] h') →
    iterL (liveL (.ref s.bd) items) (fun v l' h' K => evG sgT (callS sgT k) (fun x h' => D'.ex x l' h') (.tup (.cons (.nm 2) (.cons (.nm 3) .nil))) v l' h' fun l2 h2 => evB sgT (callS sgT k) (.cons (.ife (.cmp .eq (.var 2) (.attr (.var 1) n_called)) (.cons (.asg (.attr (.var 0) n_got) (.var 3)) .nil) .nil) .nil) l2 h2 { D' with nx := K, ct := K }) D'.nx
      (bd.map bV) [some (.ref C.w), some (.ref p), a, b] h
  | [], h, a, b, v, s1, e0, ep, W, ei, q => ⟨lst_got ei, q h a b Stays.refl W⟩
  | (x, u) :: bd, h, a, b, v, s1, e0, ep, W, ei, q => by
    refine ⟨lst_got ei, _, rfl, rfl, _, _, rfl, ⟨by show 2 < 4; decide, _, _, rfl, ⟨by show 3 < 4; decide, rfl, ?_⟩⟩⟩
    by_cases ex : x = nm
    · refine sIf (r := true) (tC (xV (i := 2) rfl (xAtV (i := 1) rfl ep ec eg (cEqT ⟨by simp [ex], ?_⟩))))
      refine set_got G W rfl (fun R r => xV (i := 3) rfl r) fun h2 F2 W2 => ?_
      refine sEnd ?_
      refine names_loop G nc ec eg bn bd h2 _ _ v { s1 with got := u } e0 (F2.ins W ep nc) W2 (F2.keep W ei bn.1 bn.2.1 bn.2.2) fun h3 a b F3 W3 => q h3 a b (F2.trans F3) ?_
      have z : (lkB nm ((x, u) :: bd)).getD s1.got = (lkB nm bd).getD u := by
        simp only [lkB, ex, if_true]
        cases lkB nm bd <;> rfl
      rw [z]; exact W3
    · refine sIf (r := false) (tC (xV (i := 2) rfl (xAtV (i := 1) rfl ep ec eg (cEqT ⟨by simp [ex], ?_⟩))))
      refine sEnd ?_
      refine names_loop G nc ec eg bn bd h _ _ v s1 e0 ep W ei fun h3 a b F3 W3 => q h3 a b F3 ?_
      have z : (lkB nm ((x, u) :: bd)).getD s1.got = (lkB nm bd).getD s1.got := by
        simp only [lkB, ex, if_false]
        cases lkB nm bd <;> rfl
      rw [z]; exact W3
theorem s_at_name {p : Nat} {nm : Str} {bd : Bd} {v : PV} (G : WG C hg) (W : WK C hg h s) (to : TO 0 hg (.nam nm) p) (bn : s.bd ≠ C.w ∧ s.bd ≠ C.wl ∧ s.bd ≠ C.ml) (eb : h[s.bd]? = some (.lst (bd.map bV))) (ev : lkB nm bd = some v) (q : ∀ h', Fx C h h' → WK C hg h' { s with got := v } → Q .non h') :
    callS sgT (k + 1) (.fn n_Walk_at_name) [.ref C.w, .ref p] h Q X := by
  obtain ⟨il, a, b, _, _, e, _⟩ := to
  have e := W.gd.at_ _ _ (Nat.zero_le _) rfl e
  refine xFn (d := d_Walk_at_name) rfl rfl ?_
  refine sFor (iSeq (xAtV (i := 0) rfl W.ob rfl rfl ⟨lst_got eb, ?_⟩))
  refine names_loop (s := s) G (by decide) rfl rfl bn bd h _ _ none s rfl e W eb fun h' a b F W' => ?_
  rw [ev] at W'
  exact q h' F W'
end
end Py

set_option Elab.async false
set_option linter.all false
set_option maxRecDepth 100000
set_option maxHeartbeats 4000000
/-! Who waits: made, and what each does with a value. -/
namespace Py
open PySem
def thV (n : Nat) : PV := .tup [.str "thing", .int (n : Nat)]
section
variable {C : WC} {hg h h' : PH} {s s' : WS} {k n : Nat} {l : Loc} {D : En} {X : KX} {Q : KQ}
theorem s_mk1 {c f : Nat} {cd : CD} {v : PV} (ec : sgT.cls c = some cd) (hd : sgT.fn cd.init = some ⟨2, 2, .cons (.asg (.attr (.var 0) f) (.var 1)) .nil, [], none⟩) (hf : fld sgT c f = true) (q : ∀ h', Gr h h' → h'[h.length]? = some (.ins c [(f, v)]) → Q (.ref h.length) h') : callS sgT (k + 2) (.mk c) [v] h Q X := by
  refine xNew ec fun h1 N => xFn hd rfl ?_
  refine sF (i := 0) (p := h.length) rfl (xV (i := 1) rfl ⟨c, [], N.at_, hf, by show (0 : Nat) < 900; omega, fun h2 u => sEnd ⟨rfl, ?_⟩⟩)
  exact q h2 (Gr.up N.gr u (Nat.le_refl _)) u.at_
theorem s_mk2 {c f1 f2 : Nat} {cd : CD} {v1 v2 : PV} (ec : sgT.cls c = some cd) (hd : sgT.fn cd.init = some ⟨3, 3, .cons (.asg (.attr (.var 0) f1) (.var 1)) (.cons (.asg (.attr (.var 0) f2) (.var 2)) .nil), [], none⟩) (hf1 : fld sgT c f1 = true) (hf2 : fld sgT c f2 = true) (ne : f1 ≠ f2) (q : ∀ h', Gr h h' → h'[h.length]? = some (.ins c [(f1, v1), (f2, v2)]) → Q (.ref h.length) h') : callS sgT (k + 2) (.mk c) [v1, v2] h Q X := by
  refine xNew ec fun h1 N => xFn hd rfl ?_
  refine sF (i := 0) (p := h.length) rfl (xV (i := 1) rfl ⟨c, [], N.at_, hf1, by show (0 : Nat) < 900; omega, fun h2 u2 => ?_⟩)
  refine sF (i := 0) (p := h.length) rfl (xV (i := 2) rfl ⟨c, _, u2.at_, hf2, by show (1 : Nat) < 900; omega, fun h3 u3 => sEnd ⟨rfl, ?_⟩⟩)
  have e := u3.at_
  rw [show putN f2 v2 (putN f1 v1 []) = [(f1, v1), (f2, v2)] by simp [putN, ne]] at e
  exact q h3 (Gr.up (Gr.up N.gr u2 (Nat.le_refl _)) u3 (Nat.le_refl _)) e
theorem s_mk_Back {a o hm : PV} (q : ∀ h', Gr h h' → h'[h.length]? = some (.ins n_BackWait [(n_bound, a), (n_own, o), (n_home, hm)]) → Q (.ref h.length) h') : callS sgT (k + 2) (.mk n_BackWait) [a, o, hm] h Q X := by
  refine xNew rfl fun h1 N => xFn (d := d_BackWait___init__) rfl rfl ?_
  refine sF (i := 0) (p := h.length) rfl (xV (i := 1) rfl ⟨_, [], N.at_, rfl, by show (0 : Nat) < 900; omega, fun h2 u2 => ?_⟩)
  refine sF (i := 0) (p := h.length) rfl (xV (i := 2) rfl ⟨_, _, u2.at_, rfl, by show (1 : Nat) < 900; omega, fun h3 u3 => ?_⟩)
  refine sF (i := 0) (p := h.length) rfl (xV (i := 3) rfl ⟨_, _, u3.at_, rfl, by show (2 : Nat) < 900; omega, fun h4 u4 => sEnd ⟨rfl, ?_⟩⟩)
  exact q h4 (Gr.up (Gr.up (Gr.up N.gr u2 (Nat.le_refl _)) u3 (Nat.le_refl _)) u4 (Nat.le_refl _)) u4.at_
theorem s_parts {p c il : Nat} {i j : Int} {own : List (Nat × PV)} {xs : List PV} (e : h[p]? = some (.ins c (bas il i j ++ own))) (hf : fld sgT c n_inner = true) (el : h[il]? = some (.lst xs)) (q : ∀ h', Nw h (.lst xs) h' → Q (.ref h.length) h') : callS sgT (k + 1) (.fn n_Term_parts) [.ref p] h Q X :=
  xFn (d := d_Term_parts) rfl rfl (sR (xBf (a1 (xAtV (i := 0) rfl e hf rfl ⟨_, lst_got el, q _ Nw.of⟩))))
/-- who gathers -/
theorem s_mkG {c tc F p il : Nat} {i j : Int} {own : List (Nat × PV)} {xs : List PV} {v : PV} {cd : CD} (ec : sgT.cls c = some cd) (hd : sgT.fn cd.init = some ⟨2, 2, .cons (.exp (.ini n_GatherWait (.cons (.var 0) (.cons (.meth (.var 1) n_parts .nil) .nil)))) (.cons (.asg (.attr (.var 0) F) (.attr (.var 1) F)) .nil), [], none⟩)
    (f1 : fld sgT c n_left = true) (f2 : fld sgT c n_known = true) (f3 : fld sgT c F = true) (nF1 : n_left ≠ F) (nF2 : n_known ≠ F) (e : h[p]? = some (.ins tc (bas il i j ++ own))) (hp : mth sgT tc n_parts = some n_Term_parts) (hi : fld sgT tc n_inner = true) (hF : fld sgT tc F = true) (gF : getN F (bas il i j ++ own) = some v) (el : h[il]? = some (.lst xs))
    (q : ∀ h' lg kg, Gr h h' → h.length < lg → h.length < kg → lg ≠ kg → h'[h.length]? = some (.ins c [(n_left, .ref lg), (n_known, .ref kg), (F, v)]) → h'[lg]? = some (.lst xs) → h'[kg]? = some (.lst []) → Q (.ref h.length) h') : callS sgT (k + 4) (.mk c) [.ref p] h Q X := by
  refine xNew ec fun h1 N => xFn hd rfl ?_
  refine sE_ (xIni rfl (aC (xV (i := 0) rfl (a1 (xMt (xV (i := 1) rfl ⟨p, _, _, _, rfl, N.get e, hp, aN (s_parts (N.get e) hi (N.get el) fun h2 N2 => ?_)⟩))))))
  refine xFn (d := d_GatherWait___init__) rfl rfl ?_
  have l1 := N.len
  have l2 := N2.len
  refine sF (i := 0) (p := h.length) rfl (xBf (a1 (xV (i := 1) rfl ⟨_, lst_got N2.at_, ?_⟩)))
  have N3 := Nw.of (h := h2) (o := .lst xs)
  refine ⟨c, [], N3.get (N2.get N.at_), f1, by show (0 : Nat) < 900; omega, fun h4 u4 => ?_⟩
  have e4 : h4[h2.length]? = some (.lst xs) := u4.get (by omega) N3.at_
  have l4 : h4.length = h.length + 3 := by rw [u4.len]; simp; omega
  refine sF (i := 0) (p := h.length) rfl (xLst (aN ⟨by show 0 ≤ 16777216; decide, fun h5 N5 => ⟨c, _, N5.get u4.at_, f2, by show (1 : Nat) < 900; omega, fun h6 u6 => sEnd ?_⟩⟩))
  have e6 := u6.get (by omega) (N5.get e4)
  have k6 : h6[h4.length]? = some (.lst []) := u6.get (by omega) N5.at_
  have g6 : Gr h h6 := Gr.up (Gr.nw (Gr.up (Gr.nw (Gr.nw N.gr N2) N3) u4 (Nat.le_refl _)) N5) u6 (Nat.le_refl _)
  refine sF (i := 0) (p := h.length) rfl (xAtV (i := 1) rfl (g6.get e) hF gF ⟨c, _, u6.at_, f3, by show (2 : Nat) < 900; omega, fun h7 u7 => sEnd ⟨rfl, ?_⟩⟩)
  have e7 := u7.at_
  rw [show putN F v (putN n_known (.ref h4.length) (putN n_left (.ref h2.length) [])) = [(n_left, .ref h2.length), (n_known, .ref h4.length), (F, v)] by
    rw [show putN n_known (PV.ref h4.length) (putN n_left (.ref h2.length) []) = [(n_left, .ref h2.length), (n_known, .ref h4.length)] from rfl]; simp [putN, nF1, nF2]] at e7
  exact q h7 h2.length h4.length (Gr.up g6 u7 (Nat.le_refl _)) (by omega) (by omega) (by omega) e7 (u7.get (by omega) e6) (u7.get (by omega) k6)
/-! ### what they do -/
theorem set_gotG {i : Nat} {e : E} {b : B} {l' : Loc} {D' : En} (G : WG C hg) (hi : l'[i]? = some (some (.ref C.w))) (he : evE sgT (callS sgT k) (fun x h' => D'.ex x l' h') e l' h fun v h1 => WK C hg h1 s ∧ ∀ h2, Fx C h1 h2 → WK C hg h2 { s with got := v } → evB sgT (callS sgT k) b l' h2 D') :
    evB sgT (callS sgT k) (.cons (.asg (.attr (.var i) n_got) e) b) l' h D' := by
  refine sF hi (mE_ he fun v h1 q => ?_)
  obtain ⟨W, q⟩ := q
  refine ⟨_, _, W.ob, rfl, by show (13 : Nat) < 900; omega, fun h2 u => ?_⟩
  have u : Up h1 C.w (.ins n_Walk (wf C { s with got := v })) h2 := u
  obtain ⟨W1, F1⟩ := W.ow G u rfl rfl
  exact q h2 F1 W1
theorem at_thing {n : Nat} {xs : List PV} {v : PV} (e : xs[n]? = some v) : atI xs (n : Int) = some v := by rw [atI_nat]; exact e
theorem s_field_go {g : Nat} {y : Hs} {es : List Hs} {held : List PV} {i : Nat} {f : Str} {v : PV} (G : WG C hg) (W : WK C hg h s) (eg : h[g]? = some (.ins n_FieldWait [(n_called, .str f)])) (em : s.ms[n]? = some (.tup [.str y.nm, .tup held])) (c : Ch C.hs y es) (hz : es.length ≤ 900) (hf : (flds (y :: es)).length ≤ 900) (ep : plc f (flds (y :: es)) = some i) (ev : held[i]? = some v)
    (q : ∀ h', Fx C h h' → WK C hg h' { s with got := v } → Q .non h') : callS sgT (k + 4) (.fn n_FieldWait_goes_on) [.ref g, .ref C.w, thV n] h Q X := by
  refine xFn (d := d_FieldWait_goes_on) rfl rfl ?_
  refine sAT (xs := [.str y.nm, .tup held]) (xIdx (xAtV (i := 1) (p := C.w) rfl W.ob rfl rfl (xIdx (xV (i := 2) rfl (xI ⟨_, rfl, _, _, lst_got W.lm, at_thing em, rfl, rfl, ?_⟩)))))
  refine ⟨_, _, rfl, ⟨by show 3 < 5; decide, _, _, rfl, ⟨by show 4 < 5; decide, rfl, ?_⟩⟩⟩
  obtain ⟨_, _, _, _, _, _, _, eh, _⟩ := (G.hall.fm W.gd).ex
  refine set_gotG (s := s) (i := 1) G rfl (xIdx (xV (i := 4) rfl (xMt (xAtV (i := 1) (p := C.w) rfl W.ob rfl rfl ⟨C.hp, _, _, _, rfl, eh, rfl, aC (xV (i := 3) rfl (a1 (xAtV (i := 0) rfl eg rfl rfl ?_)))⟩))))
  refine s_place (k := k) (G.hall.fm W.gd) c hz hf ep fun h1 g1 => ⟨v, at_thing ev, W.fx G g1, fun h2 F2 W2 => sEnd (q h2 (Stays.trans g1.stays F2) W2)⟩
theorem s_not_go {g : Nat} {b : Bool} (G : WG C hg) (W : WK C hg h s) (q : ∀ h', Fx C h h' → WK C hg h' { s with got := .bl !b } → Q .non h') : callS sgT (k + 1) (.fn n_NotWait_goes_on) [.ref g, .ref C.w, .bl b] h Q X :=
  xFn (d := d_NotWait_goes_on) rfl rfl (set_got (i := 1) G W rfl (fun R r => xNt (xV (i := 2) rfl ⟨rfl, r⟩)) fun h2 F2 W2 => sEnd (q h2 F2 W2))
theorem s_if_go {g : Nat} {b : Bool} {x y : PV} (G : WG C hg) (W : WK C hg h s) (eg : h[g]? = some (.ins n_IfWait [(n_other, x), (n_third, y)])) (q : ∀ h', Fx C h h' → WK C hg h' { s with due := if b then x else y } → Q .non h') : callS sgT (k + 1) (.fn n_IfWait_goes_on) [.ref g, .ref C.w, .bl b] h Q X := by
  refine xFn (d := d_IfWait_goes_on) rfl rfl (set_due (i := 1) (v := if b then x else y) G W rfl (fun R r => ?_) fun h2 F2 W2 => sEnd (q h2 F2 W2))
  refine xIte (tV (r := b) (xV (i := 2) rfl ⟨rfl, ?_⟩))
  cases b with
  | true => rw [if_pos rfl]; exact xAtV (i := 0) rfl eg rfl rfl r
  | false => rw [if_neg Bool.false_ne_true]; exact xAtV (i := 0) rfl eg rfl rfl r
theorem s_let_go {g : Nat} {x : Str} {y v : PV} {bd : Bd} (G : WG C hg) (W : WK C hg h s) (eg : h[g]? = some (.ins n_LetWait [(n_called, .str x), (n_other, y)])) (eb : h[s.bd]? = some (.lst (bd.map bV))) (bn : s.bd ≠ C.w ∧ s.bd ≠ C.wl ∧ s.bd ≠ C.ml) (hz : s.ws.length < 1000000) (hb : bd.length < 1000000)
    (q : ∀ h' o b2, Fx C h h' → WK C hg h' { s with ws := s.ws ++ [.ref o], bd := b2, due := y } → h'[o]? = some (.ins n_LooseWait [(n_bound, .ref s.bd)]) → (b2 ≠ C.w ∧ b2 ≠ C.wl ∧ b2 ≠ C.ml) → h'[b2]? = some (.lst ((bd ++ [(x, v)]).map bV)) → Q .non h') : callS sgT (k + 3) (.fn n_LetWait_goes_on) [.ref g, .ref C.w, v] h Q X := by
  refine xFn (d := d_LetWait_goes_on) rfl rfl ?_
  refine put_wait (i := 1) G W rfl hz (xMk (a1 (xAtV (i := 1) (p := C.w) rfl W.ob rfl rfl (s_mk1 (f := n_bound) rfl rfl rfl fun h1 g1 e1 => ⟨g1, fun h2 F2 W2 => ?_⟩))))
  have F2' : Fx C h h2 := Stays.trans g1.stays F2
  have el := F2.ins (W.fx G g1) e1 (by decide)
  have eb2 := F2'.keep W eb bn.1 bn.2.1 bn.2.2
  refine set_bound (i := 1) (s := { s with ws := s.ws ++ [.ref h.length] }) (a := 0) G rfl ?_
  refine xBin (xAtV (i := 1) (p := C.w) rfl W2.ob rfl rfl (xLst (a1 (xTup (aC (xAtV (i := 0) rfl (Fx.ins F2' W eg (by decide)) rfl rfl (a1 (xV (i := 2) rfl ⟨lz2, lz1, fun h3 N3 => ?_⟩))))))))
  refine ⟨_, _, N3.get eb2, N3.at_, by show _ + 1 ≤ 16777216; rw [List.length_map]; omega, ?_⟩
  have N4 := Nw.of (h := h3) (o := .lst (bd.map bV ++ [.tup [.str x, v]]))
  have W4 := (W2.nw G N3).nw G N4
  refine ⟨_, rfl, W4, fun h5 F5 W5 => ?_⟩
  have F5' : Fx C h h5 := ((F2'.nw N3).nw N4).trans F5
  have bn3 : h3.length ≠ C.w ∧ h3.length ≠ C.wl ∧ h3.length ≠ C.ml := by
    have a1 := lt_of (W2.nw G N3).ob
    have a2 := lt_of (W2.nw G N3).lw
    have a3 := lt_of (W2.nw G N3).lm
    exact ⟨by omega, by omega, by omega⟩
  have eb5 := F5.keep W4 N4.at_ bn3.1 bn3.2.1 bn3.2.2
  refine set_due (i := 1) G W5 rfl (fun R r => xAtV (i := 0) rfl (Fx.ins F5' W eg (by decide)) rfl rfl r) fun h6 F6 W6 => sEnd ?_
  refine q h6 h.length h3.length (F5'.trans F6) W6 ?_ bn3 ?_
  · have z := (F5.ins W4 (N4.get (N3.get el)) (by decide))
    exact F6.ins W5 z (by decide)
  · rw [List.map_append]
    exact F6.keep W5 eb5 bn3.1 bn3.2.1 bn3.2.2
theorem s_loose_go {g b0 : Nat} {v : PV} (G : WG C hg) (W : WK C hg h s) (eg : h[g]? = some (.ins n_LooseWait [(n_bound, .ref b0)])) (q : ∀ h', Fx C h h' → WK C hg h' { s with bd := b0, got := v } → Q .non h') : callS sgT (k + 1) (.fn n_LooseWait_goes_on) [.ref g, .ref C.w, v] h Q X := by
  refine xFn (d := d_LooseWait_goes_on) rfl rfl ?_
  refine set_bound (i := 1) (s := s) (a := 0) G rfl (xAtV (i := 0) rfl eg rfl rfl ⟨b0, rfl, W, fun h2 F2 W2 => ?_⟩)
  exact set_got (i := 1) G W2 rfl (fun R r => xV (i := 2) rfl r) fun h3 F3 W3 => sEnd (q h3 (F2.trans F3) W3)
theorem s_back_go {g b0 : Nat} {v o hm : PV} (G : WG C hg) (W : WK C hg h s) (eg : h[g]? = some (.ins n_BackWait [(n_bound, .ref b0), (n_own, o), (n_home, hm)])) (q : ∀ h', Fx C h h' → WK C hg h' { s with bd := b0, own := o, home := hm, opn := s.opn - 1, got := v } → Q .non h') : callS sgT (k + 1) (.fn n_BackWait_goes_on) [.ref g, .ref C.w, v] h Q X := by
  refine xFn (d := d_BackWait_goes_on) rfl rfl ?_
  refine set_bound (i := 1) (s := s) (a := 0) G rfl (xAtV (i := 0) rfl eg rfl rfl ⟨b0, rfl, W, fun h2 F2 W2 => ?_⟩)
  refine set_own (i := 1) G W2 rfl (fun R r => xAtV (i := 0) rfl (F2.ins W eg (by decide)) rfl rfl r) fun h3 F3 W3 => ?_
  have F3' := F2.trans F3
  refine set_home (i := 1) G W3 rfl (fun R r => xAtV (i := 0) rfl (Fx.ins F3' W eg (by decide)) rfl rfl r) fun h4 F4 W4 => ?_
  refine sFA (i := 1) rfl W4.ob rfl rfl (by show (13 : Nat) < 900; omega) (xI ⟨W4.ob, fun h5 u => ?_⟩)
  have u : Up h4 C.w (.ins n_Walk (wf C { s with bd := b0, own := o, home := hm, opn := s.opn - 1 })) h5 := u
  obtain ⟨W5, F5⟩ := W4.ow G u rfl rfl
  exact set_got (i := 1) G W5 rfl (fun R r => xV (i := 2) rfl r) fun h6 F6 W6 => sEnd (q h6 (((F3'.trans F4).trans F5).trans F6) W6)
end
end Py

set_option Elab.async false
set_option linter.all false
set_option maxRecDepth 100000
set_option maxHeartbeats 4000000
/-! Values gathered, words entered. -/
namespace Py
open PySem
theorem WK.fresh {C : WC} {hg h : PH} {s : WS} {a : Nat} (W : WK C hg h s) (l : h.length ≤ a) : a ≠ C.w ∧ a ≠ C.wl ∧ a ≠ C.ml := by
  have a1 := lt_of W.ob
  have a2 := lt_of W.lw
  have a3 := lt_of W.lm
  exact ⟨by omega, by omega, by omega⟩
/-- a gatherer at g: its class, its lists, its own field -/
structure GA (C : WC) (hg h : PH) (g c lg kg F : Nat) (v : PV) (ls us : List PV) : Prop where
  ob : h[g]? = some (.ins c [(n_left, .ref lg), (n_known, .ref kg), (F, v)])
  nc : c ≠ n_Walk
  el : h[lg]? = some (.lst ls)
  ek : h[kg]? = some (.lst us)
  nl : hg.length ≤ lg ∧ lg ≠ C.w ∧ lg ≠ C.wl ∧ lg ≠ C.ml
  nk : hg.length ≤ kg ∧ kg ≠ C.w ∧ kg ≠ C.wl ∧ kg ≠ C.ml
  ne : lg ≠ kg
section
variable {C : WC} {hg h h' : PH} {s s' : WS} {k n g c lg kg F : Nat} {v : PV} {ls us : List PV} {l : Loc} {D : En} {X : KX} {Q : KQ}
theorem GA.ng (A : GA C hg h g c lg kg F v ls us) : g ≠ lg ∧ g ≠ kg := ⟨fun z => (by have := A.ob; rw [z, A.el] at this; cases this), fun z => (by have := A.ob; rw [z, A.ek] at this; cases this)⟩
theorem GA.fx (A : GA C hg h g c lg kg F v ls us) (W : WK C hg h s) (f : Fx C h h') : GA C hg h' g c lg kg F v ls us :=
  ⟨f.ins W A.ob A.nc, A.nc, f.keep W A.el A.nl.2.1 A.nl.2.2.1 A.nl.2.2.2, f.keep W A.ek A.nk.2.1 A.nk.2.2.1 A.nk.2.2.2, A.nl, A.nk, A.ne⟩
theorem GA.nw {o : PO} (A : GA C hg h g c lg kg F v ls us) (u : Nw h o h') : GA C hg h' g c lg kg F v ls us := ⟨u.get A.ob, A.nc, u.get A.el, u.get A.ek, A.nl, A.nk, A.ne⟩
/-- a gatherer is made -/
theorem s_mkGA {tc p il : Nat} {i j : Int} {own : List (Nat × PV)} {xs : List PV} {cd : CD} (W : WK C hg h s) (nc : c ≠ n_Walk) (ec : sgT.cls c = some cd) (hd : sgT.fn cd.init = some ⟨2, 2, .cons (.exp (.ini n_GatherWait (.cons (.var 0) (.cons (.meth (.var 1) n_parts .nil) .nil)))) (.cons (.asg (.attr (.var 0) F) (.attr (.var 1) F)) .nil), [], none⟩)
    (f1 : fld sgT c n_left = true) (f2 : fld sgT c n_known = true) (f3 : fld sgT c F = true) (nF1 : n_left ≠ F) (nF2 : n_known ≠ F) (e : h[p]? = some (.ins tc (bas il i j ++ own))) (hp : mth sgT tc n_parts = some n_Term_parts) (hi : fld sgT tc n_inner = true) (hF : fld sgT tc F = true) (gF : getN F (bas il i j ++ own) = some v) (el : h[il]? = some (.lst xs))
    (q : ∀ h' lg kg, Gr h h' → h.length < lg → h.length < kg → GA C hg h' h.length c lg kg F v xs [] → Q (.ref h.length) h') : callS sgT (k + 4) (.mk c) [.ref p] h Q X :=
  s_mkG ec hd f1 f2 f3 nF1 nF2 e hp hi hF gF el fun h' lg kg gr l1 l2 ne eo e1 e2 => q h' lg kg gr l1 l2 ⟨eo, nc, e1, e2, ⟨Nat.le_trans W.ln (Nat.le_of_lt l1), W.fresh (Nat.le_of_lt l1)⟩, ⟨Nat.le_trans W.ln (Nat.le_of_lt l2), W.fresh (Nat.le_of_lt l2)⟩, ne⟩
theorem s_begins_nil {f : Nat} {R : PH → Prop} (A : GA C hg h g c lg kg F v [] us) (hf : fld sgT c n_left = true) (hm : mth sgT c n_gathered = some f) (q : ∀ h', Nw h (.lst []) h' → callS sgT k (.fn f) [.ref g, .ref C.w] h' (fun _ h'' => R h'') X) : callS sgT (k + 1) (.fn n_GatherWait_begins) [.ref g, .ref C.w] h (fun _ h'' => R h'') X := by
  refine xFn (d := d_GatherWait_begins) rfl rfl ?_
  refine sIf (r := true) (tC (xAtV (i := 0) rfl A.ob hf rfl (xLst (aN ⟨by show 0 ≤ 16777216; decide, fun h1 N => ?_⟩))))
  refine eq_nil (lst_got (N.get A.el)) (lst_got N.at_) ⟨rfl, ?_⟩
  exact sE_ (xMt (xV (i := 0) rfl ⟨g, _, _, _, rfl, N.get A.ob, hm, a1 (xV (i := 1) rfl (cM (q h1 N) fun _ _ z => z))⟩))
theorem s_begins_cons {x : PV} {R : PH → Prop} (G : WG C hg) (W : WK C hg h s) (A : GA C hg h g c lg kg F v (x :: ls) us) (hf : fld sgT c n_left = true) (hz : s.ws.length < 1000000) (q : ∀ h', Stays [C.w, C.wl, C.ml, lg] h h' → WK C hg h' { s with ws := s.ws ++ [.ref g], due := x } → GA C hg h' g c lg kg F v ls us → R h') :
    callS sgT (k + 1) (.fn n_GatherWait_begins) [.ref g, .ref C.w] h (fun _ h'' => R h'') X := by
  refine xFn (d := d_GatherWait_begins) rfl rfl ?_
  refine sIf (r := false) (tC (xAtV (i := 0) rfl A.ob hf rfl (xLst (aN ⟨by show 0 ≤ 16777216; decide, fun h1 N => ?_⟩))))
  refine eq_nil (lst_got (N.get A.el)) (lst_got N.at_) ⟨rfl, ?_⟩
  have W1 := W.nw G N
  have A1 := A.nw N
  refine put_wait (i := 1) G W1 rfl hz (xV (i := 0) rfl ⟨Stays.refl, fun h2 F2 W2 => ?_⟩)
  have A2 := A1.fx W1 F2
  refine sF (i := 1) (p := C.w) rfl (xBm (xAtV (i := 0) rfl A2.ob hf rfl ⟨ty_get A2.el, a1 (xI ⟨_, 0, x, A2.el, by decide, by unfold seqIndex?; simp, rfl, ?_⟩)⟩))
  have u := Up.of (o := .lst ((x :: ls).eraseIdx 0)) A2.el
  have W3 := W2.oth u A.nl.1 A.nl.2.1 A.nl.2.2.1 A.nl.2.2.2
  refine ⟨_, _, W3.ob, rfl, by show (13 : Nat) < 900; omega, fun h4 u4 => sEnd ?_⟩
  have u4 : Up _ C.w (.ins n_Walk (wf C { s with ws := s.ws ++ [.ref g], due := x })) h4 := u4
  obtain ⟨W4, F4⟩ := W3.ow G u4 rfl rfl
  have A3 : GA C hg (h2.set lg (.lst ((x :: ls).eraseIdx 0))) g c lg kg F v ls us := ⟨u.get A.ng.1 A2.ob, A.nc, u.at_, u.get A.ne.symm A2.ek, A.nl, A.nk, A.ne⟩
  refine q h4 ?_ W4 (A3.fx W3 F4)
  have sub : ∀ x ∈ [C.w, C.wl, C.ml], x ∈ [C.w, C.wl, C.ml, lg] := by simp +contextual
  exact (((N.stays).trans (F2.mono sub)).trans (u.stays (by simp))).trans (F4.mono sub)
theorem s_gather_go {R : PH → Prop} {x : PV} (W : WK C hg h s) (A : GA C hg h g c lg kg F v ls us) (hf : fld sgT c n_known = true) (hm : mth sgT c n_begins = some n_GatherWait_begins) (hz : us.length < 1000000) (q : ∀ h', Stays [kg] h h' → WK C hg h' s → GA C hg h' g c lg kg F v ls (us ++ [x]) → callS sgT k (.fn n_GatherWait_begins) [.ref g, .ref C.w] h' (fun _ h'' => R h'') X) :
    callS sgT (k + 1) (.fn n_GatherWait_goes_on) [.ref g, .ref C.w, x] h (fun _ h'' => R h'') X := by
  refine xFn (d := d_GatherWait_goes_on) rfl rfl ?_
  refine sE_ (xBm (xAtV (i := 0) rfl A.ob hf rfl ⟨ty_get A.ek, a1 (xV (i := 2) rfl ⟨_, A.ek, by show _ < 16777216; omega, ?_⟩)⟩))
  have u := Up.of (o := .lst (us ++ [x])) A.ek
  have A2 : GA C hg (h.set kg (.lst (us ++ [x]))) g c lg kg F v ls (us ++ [x]) := ⟨u.get A.ng.2 A.ob, A.nc, u.get A.ne A.el, u.at_, A.nl, A.nk, A.ne⟩
  refine sE_ (xMt (xV (i := 0) rfl ⟨g, _, _, _, rfl, A2.ob, hm, a1 (xV (i := 1) rfl (cM (q _ (u.stays (by simp)) (W.oth u A.nk.1 A.nk.2.1 A.nk.2.2.1 A.nk.2.2.2) A2) fun _ _ z => sEnd z))⟩))
/-! ### what comes of it -/
theorem s_new_done {cn : Str} {vs : List PV} (G : WG C hg) (W : WK C hg h s) (A : GA C hg h g n_NewWait lg kg n_called (.str cn) [] vs) (hz : s.ms.length < 1000000) (q : ∀ h', Fx C h h' → WK C hg h' { s with got := thV s.ms.length, ms := s.ms ++ [.tup [.str cn, .tup vs]] } → Q .non h') : callS sgT (k + 1) (.fn n_NewWait_gathered) [.ref g, .ref C.w] h Q X := by
  refine xFn (d := d_NewWait_gathered) rfl rfl ?_
  refine set_got (i := 1) (v := thV s.ms.length) G W rfl (fun R r => xTup (aC (xS (a1 (xBf (a1 (xAtV (i := 1) (p := C.w) rfl W.ob rfl rfl ⟨_, lst_got W.lm, lz2, r⟩))))))) fun h2 F2 W2 => ?_
  have A2 := A.fx W F2
  refine sE_ (xBm (xAtV (i := 1) (p := C.w) rfl W2.ob rfl rfl ⟨ty_get W2.lm, a1 (xTup (aC (xAtV (i := 0) rfl A2.ob rfl rfl (a1 (xBf (a1 (xAtV (i := 0) rfl A2.ob rfl rfl ⟨_, lst_got A2.ek, lz2, _, W2.lm, by show _ < 16777216; exact Nat.lt_trans hz (by omega), ?_⟩)))))))⟩))
  obtain ⟨W3, F3⟩ := W2.om G (Up.of (o := .lst (s.ms ++ [.tup [.str cn, .tup vs]])) W2.lm)
  exact sEnd (q _ (F2.trans F3) W3)
theorem s_within {i : Int} {R : KQ} (q : R (if i < -1000000000000000 ∨ 1000000000000000 < i then .tup [.str "refused", .str "great"] else .tup [.str "value", .int i]) h) : callS sgT (k + 1) (.fn n_within) [.int i] h R X := by
  refine xFn (d := d_within) rfl rfl ?_
  refine sIf (r := decide (i < -1000000000000000 ∨ 1000000000000000 < i)) ?_
  show evT sgT (callS sgT k) _ (.cmp .lt (.var 0) (.bin .sub (.int 0) (.glob n_GREATEST))) _ _ _
  refine tC (xV (i := 0) rfl (xBin (xI (xG rfl ?_))))
  show (if decide (i < 0 - 1000000000000000) = true then _ else evT sgT (callS sgT k) _ (.cmp .gt (.var 0) (.glob n_GREATEST)) _ h _)
  by_cases h1 : i < 0 - 1000000000000000
  · rw [if_pos (by simpa using h1)]
    have h2 : i < -1000000000000000 ∨ 1000000000000000 < i := .inl (by omega)
    rw [if_pos h2] at q
    refine ⟨by simp [h2], ?_⟩
    rw [decide_eq_true h2]
    exact sR (xTup (aC (xS (a1 (xS ⟨lz2, q⟩)))))
  · rw [if_neg (by simpa using h1)]
    refine tC (xV (i := 0) rfl (xG rfl ?_))
    show _ ∧ _
    by_cases h3 : 1000000000000000 < i
    · have h2 : i < -1000000000000000 ∨ 1000000000000000 < i := .inr h3
      rw [if_pos h2] at q
      refine ⟨by simp [h2, h3], ?_⟩
      rw [decide_eq_true h2]
      exact sR (xTup (aC (xS (a1 (xS ⟨lz2, q⟩)))))
    · have h2 : ¬ (i < -1000000000000000 ∨ 1000000000000000 < i) := by omega
      rw [if_neg h2] at q
      refine ⟨by simp [h3]; omega, ?_⟩
      rw [decide_eq_false h2]
      exact sEnd (sR (xTup (aC (xS (a1 (xV (i := 0) rfl ⟨lz2, q⟩))))))
end
end Py

set_option Elab.async false
set_option linter.all false
set_option maxRecDepth 100000
set_option maxHeartbeats 4000000
/-! Two values, a field set, a word entered. -/
namespace Py
open PySem
/-- what comes of two numbers by a sign -/
def tw (s : String) (x y : Int) : PV × Bool :=
  if s = "<" then (.bl (decide (x < y)), true)
  else if s = "/" ∧ y = 0 then (.str "nought", false)
  else
    let r := if s = "+" then x + y else if s = "-" then x - y else if s = "*" then x * y else x.fdiv y
    if r < -1000000000000000 ∨ 1000000000000000 < r then (.str "great", false) else (.int r, true)
def small (i : Int) : Prop := -1000000000000000 ≤ i ∧ i ≤ 1000000000000000
section
variable {C : WC} {hg h h' : PH} {s s' : WS} {k n g c lg kg F : Nat} {v : PV} {ls us : List PV} {l : Loc} {D : En} {X : KX} {Q : KQ}
theorem sgY {a b : B} {w : String} {l : Loc} {D : En} (e : l[0]? = some (some (.str (Str.ofString w)))) (q : evB sgT (callS sgT k) a l h { D with nx := fun l' h' => evB sgT (callS sgT k) b l' h' D }) : evB sgT (callS sgT k) (.cons (.ife (.cmp .eq (.var 0) (.str (Str.ofString w))) a .nil) b) l h D :=
  sIf (r := true) (tC (xV e (xS (cEqS ⟨by simp, q⟩))))
theorem sgN {a b : B} {w u : String} {l : Loc} {D : En} (e : l[0]? = some (some (.str (Str.ofString w)))) (ne : w ≠ u) (q : evB sgT (callS sgT k) b l h D) : evB sgT (callS sgT k) (.cons (.ife (.cmp .eq (.var 0) (.str (Str.ofString u))) a .nil) b) l h D :=
  sIf (r := false) (tC (xV e (xS (cEqS ⟨by simp [ne], sEnd q⟩))))
theorem s_two_told {w : String} {x y : Int} {R : KQ} (hw : w = "+" ∨ w = "-" ∨ w = "*" ∨ w = "<" ∨ w = "/") (hx : small x) (hy : small y) (q : R (.tup [.str (if (tw w x y).2 = true then "value" else "refused"), (tw w x y).1]) h) : callS sgT (k + 2) (.fn n_two_told) [.str (Str.ofString w), .int x, .int y] h R X := by
  refine xFn (d := d_two_told) rfl rfl ?_
  have fin : ∀ (r : Int) (D : En), D.rt = R → R (if r < -1000000000000000 ∨ 1000000000000000 < r then .tup [.str "refused", .str "great"] else .tup [.str "value", .int r]) h → D.rt (if r < -1000000000000000 ∨ 1000000000000000 < r then .tup [.str "refused", .str "great"] else .tup [.str "value", .int r]) h := fun r D e z => by rw [e]; exact z
  obtain ⟨hx1, hx2⟩ := hx
  obtain ⟨hy1, hy2⟩ := hy
  rcases hw with rfl | rfl | rfl | rfl | rfl
  · refine sgY rfl (sR (xCall (a1 (xBin (xV (i := 1) rfl (xV (i := 2) rfl (s_within ?_)))))))
    simp only [tw, String.reduceEq, if_false, if_true, false_and] at q
    split <;> rename_i z <;> simp only [z, if_true, if_false] at q <;> exact q
  · refine sgN rfl (by simp) (sgY rfl (sR (xCall (a1 (xBin (xV (i := 1) rfl (xV (i := 2) rfl (s_within ?_))))))))
    simp only [tw, String.reduceEq, if_false, if_true, false_and] at q
    split <;> rename_i z <;> simp only [z, if_true, if_false] at q <;> exact q
  · refine sgN rfl (by simp) (sgN rfl (by simp) (sgY rfl (sR (xCall (a1 (xBin (xV (i := 1) rfl (xV (i := 2) rfl ⟨.inl (by omega), s_within ?_⟩))))))))
    simp only [tw, String.reduceEq, if_false, if_true, false_and] at q
    split <;> rename_i z <;> simp only [z, if_true, if_false] at q <;> exact q
  · refine sgN rfl (by simp) (sgN rfl (by simp) (sgN rfl (by simp) (sgY rfl (sR (xTup (aC (xS (a1 (xCmp (xV (i := 1) rfl (xV (i := 2) rfl ⟨lz2, ?_⟩)))))))))))
    simp only [tw, if_true] at q
    exact q
  · refine sgN rfl (by simp) (sgN rfl (by simp) (sgN rfl (by simp) (sgN rfl (by simp) (sgN rfl (by simp) ?_))))
    by_cases hz : y = 0
    · refine sIf (r := true) (tC (xV (i := 2) rfl (xI (cEqI ⟨by simp [hz], sR (xTup (aC (xS (a1 (xS ⟨lz2, ?_⟩)))))⟩))))
      simp only [tw, hz, String.reduceEq, if_false, if_true, true_and] at q
      exact q
    · refine sIf (r := false) (tC (xV (i := 2) rfl (xI (cEqI ⟨by simp [hz], sEnd (sR (xCall (a1 (xBin (xV (i := 1) rfl (xV (i := 2) rfl ⟨hz, ?_, s_within ?_⟩))))))⟩))))
      · have : y.natAbs < 2 ^ 9000 := Nat.lt_of_lt_of_le (show y.natAbs < 2 ^ 50 by omega) (Nat.pow_le_pow_right (by omega) (by omega))
        exact (Nat.log2_lt (by omega)).mpr this
      · simp only [tw, hz, String.reduceEq, if_false, and_false] at q
        split <;> rename_i z <;> simp only [z, if_true, if_false] at q <;> exact q
/-- a ; b -/
theorem s_two_seq {a b : PV} (G : WG C hg) (W : WK C hg h s) (A : GA C hg h g n_TwoWait lg kg n_sign (.str ";") [] [a, b]) (q : ∀ h', Fx C h h' → WK C hg h' { s with got := b } → Q .non h') : callS sgT (k + 1) (.fn n_TwoWait_gathered) [.ref g, .ref C.w] h Q X := by
  refine xFn (d := d_TwoWait_gathered) rfl rfl ?_
  refine sAT (xs := [a, b]) (xAtV (i := 0) rfl A.ob rfl rfl ⟨lst_got A.ek, rfl, _, _, rfl, ⟨by show 2 < 6; decide, _, _, rfl, ⟨by show 3 < 6; decide, rfl, ?_⟩⟩⟩)
  refine sIf (r := true) (tC (xAtV (i := 0) rfl A.ob rfl rfl (xS (cEqS ⟨by simp, ?_⟩))))
  exact set_got (i := 1) G W rfl (fun R r => xV (i := 3) rfl r) fun h2 F2 W2 => sEnd (q h2 F2 W2)
theorem s_two_same {a b : PV} (G : WG C hg) (W : WK C hg h s) (A : GA C hg h g n_TwoWait lg kg n_sign (.str "=") [] [a, b]) (oa : okV a = true) (ob : okV b = true) (q : ∀ h', Fx C h h' → WK C hg h' { s with got := .bl (PyData.eqv (dat a) (dat b)) } → Q .non h') : callS sgT (k + 1) (.fn n_TwoWait_gathered) [.ref g, .ref C.w] h Q X := by
  refine xFn (d := d_TwoWait_gathered) rfl rfl ?_
  refine sAT (xs := [a, b]) (xAtV (i := 0) rfl A.ob rfl rfl ⟨lst_got A.ek, rfl, _, _, rfl, ⟨by show 2 < 6; decide, _, _, rfl, ⟨by show 3 < 6; decide, rfl, ?_⟩⟩⟩)
  refine sIf (r := false) (tC (xAtV (i := 0) rfl A.ob rfl rfl (xS (cEqS ⟨by simp, ?_⟩))))
  refine sIf (r := true) (tC (xAtV (i := 0) rfl A.ob rfl rfl (xS (cEqS ⟨by simp, ?_⟩))))
  exact set_got (i := 1) (v := .bl (PyData.eqv (dat a) (dat b))) G W rfl (fun R r => xCmp (xV (i := 2) rfl (xV (i := 3) rfl (by rw [cmp_eq oa ob]; exact r)))) fun h2 F2 W2 => sEnd (q h2 F2 W2)
theorem s_two_num {w : String} {x y : Int} (G : WG C hg) (W : WK C hg h s) (A : GA C hg h g n_TwoWait lg kg n_sign (.str (Str.ofString w)) [] [.int x, .int y]) (hw : w = "+" ∨ w = "-" ∨ w = "*" ∨ w = "<" ∨ w = "/") (hx : small x) (hy : small y)
    (q : ∀ h', Fx C h h' → WK C hg h' { s with got := (tw w x y).1, ended := if (tw w x y).2 = true then s.ended else .tup [.str "refused", (tw w x y).1] } → Q .non h') : callS sgT (k + 3) (.fn n_TwoWait_gathered) [.ref g, .ref C.w] h Q X := by
  refine xFn (d := d_TwoWait_gathered) rfl rfl ?_
  refine sAT (xs := [.int x, .int y]) (xAtV (i := 0) rfl A.ob rfl rfl ⟨lst_got A.ek, rfl, _, _, rfl, ⟨by show 2 < 6; decide, _, _, rfl, ⟨by show 3 < 6; decide, rfl, ?_⟩⟩⟩)
  have n1 : w ≠ ";" := by rcases hw with rfl | rfl | rfl | rfl | rfl <;> simp
  have n2 : w ≠ "=" := by rcases hw with rfl | rfl | rfl | rfl | rfl <;> simp
  refine sIf (r := false) (tC (xAtV (i := 0) rfl A.ob rfl rfl (xS (cEqS ⟨by simp [n1], ?_⟩))))
  refine sIf (r := false) (tC (xAtV (i := 0) rfl A.ob rfl rfl (xS (cEqS ⟨by simp [n2], ?_⟩))))
  refine sAT (xs := [.str (if (tw w x y).2 = true then "value" else "refused"), (tw w x y).1]) (xCall (aC (xAtV (i := 0) rfl A.ob rfl rfl (aC (xV (i := 2) rfl (a1 (xV (i := 3) rfl (s_two_told hw hx hy ⟨rfl, rfl, ?_⟩))))))))
  refine ⟨_, _, rfl, ⟨by show 4 < 6; decide, _, _, rfl, ⟨by show 5 < 6; decide, rfl, ?_⟩⟩⟩
  cases ht : (tw w x y).2 with
  | true =>
    rw [ht] at q
    refine sIf (r := false) (tC (xV (i := 4) rfl (xS (cEqS ⟨by simp, sEnd ?_⟩))))
    exact set_got (i := 1) G W rfl (fun R r => xV (i := 5) rfl r) fun h2 F2 W2 => sEnd (q h2 F2 W2)
  | false =>
    rw [ht] at q
    refine sIf (r := true) (tC (xV (i := 4) rfl (xS (cEqS ⟨by simp, ?_⟩))))
    refine set_ended (i := 1) (v := .tup [.str "refused", (tw w x y).1]) G W rfl (fun R r => xTup (aC (xV (i := 4) rfl (a1 (xV (i := 5) rfl ⟨lz2, r⟩))))) fun h2 F2 W2 => ?_
    refine sEnd ?_
    exact set_got (k := k + 2) (i := 1) G W2 rfl (fun R r => xV (i := 5) rfl r) fun h3 F3 W3 => sEnd (q h3 (F2.trans F3) W3)
theorem s_set_done {m : Nat} {y : Hs} {es : List Hs} {held : List PV} {i : Nat} {f : Str} {v : PV} (G : WG C hg) (W : WK C hg h s) (A : GA C hg h g n_SetWait lg kg n_called (.str f) [] [thV m, v]) (em : s.ms[m]? = some (.tup [.str y.nm, .tup held])) (c : Ch C.hs y es) (hz : es.length ≤ 900) (hf : (flds (y :: es)).length ≤ 900) (ep : plc f (flds (y :: es)) = some i) (il : i < held.length) (hh : held.length ≤ 900)
    (q : ∀ h', Fx C h h' → WK C hg h' { s with got := v, ms := s.ms.set m (.tup [.str y.nm, .tup (held.set i v)]) } → Q .non h') : callS sgT (k + 4) (.fn n_SetWait_gathered) [.ref g, .ref C.w] h Q X := by
  refine xFn (d := d_SetWait_gathered) rfl rfl ?_
  refine sAT (xs := [thV m, v]) (xAtV (i := 0) rfl A.ob rfl rfl ⟨lst_got A.ek, rfl, _, _, rfl, ⟨by show 2 < 7; decide, _, _, rfl, ⟨by show 3 < 7; decide, rfl, ?_⟩⟩⟩)
  refine sAT (xs := [.str y.nm, .tup held]) (xIdx (xAtV (i := 1) (p := C.w) rfl W.ob rfl rfl (xIdx (xV (i := 2) rfl (xI ⟨_, rfl, _, _, lst_got W.lm, at_thing em, rfl, rfl, ?_⟩)))))
  refine ⟨_, _, rfl, ⟨by show 4 < 7; decide, _, _, rfl, ⟨by show 5 < 7; decide, rfl, ?_⟩⟩⟩
  obtain ⟨_, _, _, _, _, _, _, eh, _⟩ := (G.hall.fm W.gd).ex
  refine sAs (by show 6 < 7; decide) (xMt (xAtV (i := 1) (p := C.w) rfl W.ob rfl rfl ⟨C.hp, _, _, _, rfl, eh, rfl, aC (xV (i := 4) rfl (a1 (xAtV (i := 0) rfl A.ob rfl rfl (s_place (k := k) (G.hall.fm W.gd) c hz hf ep fun h1 g1 => ?_))))⟩))
  have W1 := W.fx G g1
  have lm : m < s.ms.length := (List.getElem?_eq_some_iff.mp em).1
  refine sSub (xTup (aC (xV (i := 4) rfl (a1 (xBin (xBin (xSlc (xV (i := 5) rfl (xON (xOS (i := (i : Int)) (xV (i := 6) rfl ⟨rfl, ?_⟩)))))))))))
  have c1 : cut held none (some (i : Int)) = held.take i := by
    show (held.drop 0).take ((if (i : Int) < 0 then ((i : Int) + (held.length : Int)).toNat else min (i : Int).toNat held.length) - 0) = _
    rw [if_neg (by omega), List.drop_zero]
    congr 1
    simp; omega
  have c2 : cut held (some ((i : Int) + 1)) none = held.drop (i + 1) := by
    show (held.drop (if (i : Int) + 1 < 0 then ((i : Int) + 1 + (held.length : Int)).toNat else min ((i : Int) + 1).toNat held.length)).take (held.length - (if (i : Int) + 1 < 0 then ((i : Int) + 1 + (held.length : Int)).toNat else min ((i : Int) + 1).toNat held.length)) = _
    rw [if_neg (by omega), show min ((i : Int) + 1).toNat held.length = i + 1 by omega]
    exact List.take_of_length_le (by simp)
  rw [slT]
  refine xTup (a1 (xV (i := 3) rfl ⟨lz1, ?_, ?_⟩))
  · show _ ≤ 16777216
    rw [c1]; simp; omega
  refine xSlc (xV (i := 5) rfl (xOS (i := (i : Int) + 1) (xBin (xV (i := 6) rfl (xI ⟨rfl, xON ?_⟩)))))
  have cs : cut held none (some (i : Int)) ++ [v] ++ cut held (some ((i : Int) + 1)) none = held.set i v := by
    rw [c1, c2, List.set_eq_take_append_cons_drop, if_pos il]; simp
  rw [slT]
  refine ⟨?_, lz2, ?_⟩
  · show _ ≤ 16777216
    rw [c1, c2]; simp; omega
  refine xAtV (i := 1) (p := C.w) rfl W1.ob rfl rfl (xIdx (xV (i := 2) rfl (xI ⟨_, rfl, ?_⟩)))
  have lx : ixN s.ms.length (m : Int) = some m := by unfold ixN; rw [if_pos (by omega), if_pos (by omega)]; simp
  show putV (.ref C.ml) (.int m) _ _ _
  rw [put_lst W1.lm lx, cs]
  obtain ⟨W2, F2⟩ := W1.om G (Up.of (o := .lst (s.ms.set m (.tup [.str y.nm, .tup (held.set i v)]))) W1.lm)
  exact set_got (i := 1) G W2 rfl (fun R r => xV (i := 3) rfl r) fun h3 F3 W3 => sEnd (q h3 (Stays.trans g1.stays (F2.trans F3)) W3)
end
end Py

set_option Elab.async false
set_option linter.all false
set_option maxRecDepth 100000
set_option maxHeartbeats 4000000
/-! Words entered. -/
namespace Py
open PySem
def zipB : List (Str × Str) → List PV → Bd
  | p :: ps, v :: vs => (p.1, v) :: zipB ps vs
  | _, _ => []
def toB : PV → PV
  | .tup [.tup [a, _], v] => .tup [a, v]
  | v => v
theorem zip_toB : ∀ (ps : List (Str × Str)) (vs : List PV), (zipT (ps.map prV) vs).map toB = (zipB ps vs).map bV
  | [], vs => by simp [zipT, zipB]
  | p :: ps, [] => by simp [zipT, zipB]
  | p :: ps, v :: vs => by
    show toB (.tup [prV p, v]) :: (zipT (ps.map prV) vs).map toB = _
    rw [zip_toB ps vs]; rfl
theorem zip_at : ∀ (ps : List (Str × Str)) (vs : List PV) (i : Nat) (x : PV), (zipT (ps.map prV) vs)[i]? = some x → ∃ p v, x = .tup [prV p, v]
  | [], vs, i, x, e => by simp [zipT] at e
  | p :: ps, [], i, x, e => by simp [zipT] at e
  | p :: ps, v :: vs, 0, x, e => ⟨p, v, (Option.some.inj e).symm⟩
  | p :: ps, v :: vs, i + 1, x, e => zip_at ps vs i x e
section
variable {C : WC} {hg h h' : PH} {s s' : WS} {k n g c lg kg F : Nat} {v : PV} {ls us : List PV} {l : Loc} {D : En} {X : KX} {Q : KQ} {R : PH → Prop}
/-- the names of a word are bound to values -/
theorem s_bind {l : Loc} {e1 e2 : E} {i5 i6 va : Nat} {ps : List (Str × Str)} {vs : List PV} (h5 : i5 < l.length) (h6 : i6 < l.length) (n56 : i5 ≠ i6) (he1 : ∀ S : KQ, S (prs ps) h → evE sgT (callS sgT k) X e1 l h S) (he2 : ∀ S : KQ, S (.ref va) h → evE sgT (callS sgT k) X e2 l h S) (ev : h[va]? = some (.lst vs)) (hz : vs.length ≤ 900)
    (q : ∀ h', Gr h h' → h'[h.length]? = some (.lst ((zipB ps vs).map bV)) → Q (.ref h.length) h') :
    evE sgT (callS sgT k) X (.lc (.tup (.cons (.idx (.var i5) (.int 0)) (.cons (.var i6) .nil))) (.tup (.cons (.nm i5) (.cons (.nm i6) .nil))) (.zip2 e1 e2) .no) l h Q := by
  refine xLcG (iZip (xs := ps.map prV) (ys := vs) (he1 _ (he2 _ ⟨rfl, lst_got ev, fun h2 N => ?_⟩)))
  refine comp_inv (fun i acc h' => Gr h h' ∧ acc = ((zipT (ps.map prV) vs).take i).map toB) (fun i acc h' iv => ⟨trivial, lst_got (iv.1.get ev)⟩) _ 0 [] h2 ⟨N.gr, rfl⟩ N.at_ ?_ (fun i x acc h' K ex iv ea c1 _ => ?_) fun acc h' iv ea => ?_
  · show 0 + _ ≤ 16777216
    rw [zip_len]; omega
  · obtain ⟨gr, rfl⟩ := iv
    obtain ⟨p, v, rfl⟩ := zip_at _ _ _ _ ex
    refine ⟨_, rfl, rfl, _, _, rfl, ⟨by simpa [tNs, tsNs, wipeL] using h5, _, _, rfl, ⟨by simpa [tNs, tsNs, wipeL] using h6, rfl, ?_⟩⟩⟩
    refine xTup (aC (xIdx (xV (v := prV p) ?_ (xI ⟨_, rfl, a1 (xV (v := v) ?_ ⟨lz2, ?_⟩)⟩))))
    · rw [List.getElem?_set_ne n56.symm, List.getElem?_set_self (by simpa [tNs, tsNs, wipeL] using h5)]
    · rw [List.getElem?_set_self (by simpa [tNs, tsNs, wipeL] using h6)]
    refine c1 _ _ ea fun h4 u => ⟨Gr.up gr u (Nat.le_refl _), ?_⟩
    rw [show (zipT (ps.map prV) vs).take (0 + i + 1) = (zipT (ps.map prV) vs).take (0 + i) ++ [.tup [prV p, v]] by rw [Nat.zero_add, List.take_succ, ex]; rfl, List.map_append]; rfl
  · obtain ⟨gr, rfl⟩ := iv
    rw [Nat.zero_add, List.take_length, zip_toB] at ea
    exact q h' gr ea
/-- a number of the walk goes up by one -/
theorem inc_cnt {b : B} {l' : Loc} {D' : En} (G : WG C hg) (W : WK C hg h s) (hi : l'[0]? = some (some (.ref C.w))) (q : ∀ h2, Fx C h h2 → WK C hg h2 { s with cnt := s.cnt + 1 } → evB sgT (callS sgT k) b l' h2 D') : evB sgT (callS sgT k) (.cons (.augF (.var 0) n_counted .add (.int 1)) b) l' h D' := by
  refine sFA (i := 0) hi W.ob rfl rfl (by show (13 : Nat) < 900; omega) (xI ⟨W.ob, fun h5 u => ?_⟩)
  have u : Up h C.w (.ins n_Walk (wf C { s with cnt := s.cnt + 1 })) h5 := u
  obtain ⟨W5, F5⟩ := W.ow G u rfl rfl
  exact q h5 F5 W5
theorem inc_opn {b : B} {l' : Loc} {D' : En} (G : WG C hg) (W : WK C hg h s) (hi : l'[0]? = some (some (.ref C.w))) (q : ∀ h2, Fx C h h2 → WK C hg h2 { s with opn := s.opn + 1 } → evB sgT (callS sgT k) b l' h2 D') : evB sgT (callS sgT k) (.cons (.augF (.var 0) n_open_calls .add (.int 1)) b) l' h D' := by
  refine sFA (i := 0) hi W.ob rfl rfl (by show (13 : Nat) < 900; omega) (xI ⟨W.ob, fun h5 u => ?_⟩)
  have u : Up h C.w (.ins n_Walk (wf C { s with opn := s.opn + 1 })) h5 := u
  obtain ⟨W5, F5⟩ := W.ow G u rfl rfl
  exact q h5 F5 W5
theorem s_enter_dry {sp own va : PV} (G : WG C hg) (W : WK C hg h s) (e : s.cnt = C.most) (q : ∀ h', Fx C h h' → WK C hg h' { s with ended := .tup [.str "dry"] } → R h') : callS sgT (k + 1) (.fn n_Walk_enter) [.ref C.w, sp, own, va] h (fun _ h'' => R h'') X := by
  refine xFn (d := d_Walk_enter) rfl rfl ?_
  refine sIf (r := true) (tC (xAtV (i := 0) rfl W.ob rfl rfl (xAtV (i := 0) rfl W.ob rfl rfl (cEqI ⟨by simp [e], ?_⟩))))
  exact set_ended (i := 0) (v := .tup [.str "dry"]) G W rfl (fun R r => xTup (a1 (xS ⟨lz1, r⟩))) fun h2 F2 W2 => sRN (q h2 F2 W2)
theorem s_enter_deep {sp own va : PV} (G : WG C hg) (W : WK C hg h s) (e : s.cnt ≠ C.most) (e2 : s.opn = 40) (q : ∀ h', Fx C h h' → WK C hg h' { s with cnt := s.cnt + 1, ended := .tup [.str "deep"] } → R h') : callS sgT (k + 1) (.fn n_Walk_enter) [.ref C.w, sp, own, va] h (fun _ h'' => R h'') X := by
  refine xFn (d := d_Walk_enter) rfl rfl ?_
  refine sIf (r := false) (tC (xAtV (i := 0) rfl W.ob rfl rfl (xAtV (i := 0) rfl W.ob rfl rfl (cEqI ⟨by simp [e], sEnd ?_⟩))))
  refine inc_cnt G W rfl fun h2 F2 W2 => ?_
  refine sIf (r := true) (tC (xAtV (i := 0) rfl W2.ob rfl rfl (xG rfl (cEqI ⟨by simp [e2], ?_⟩))))
  exact set_ended (i := 0) (v := .tup [.str "deep"]) G W2 rfl (fun R r => xTup (a1 (xS ⟨lz1, r⟩))) fun h3 F3 W3 => sEnd (q h3 (F2.trans F3) W3)
theorem s_enter_go {y : Hs} {i va : Nat} {own : PV} {wd : Wd} {vs : List PV} (G : WG C hg) (W : WK C hg h s) (e : s.cnt ≠ C.most) (e2 : s.opn ≠ 40) (my : y ∈ C.hs) (ew : y.ws[i]? = some wd) (ev : h[va]? = some (.lst vs)) (nv : va ≠ C.w ∧ va ≠ C.wl ∧ va ≠ C.ml) (hz : vs.length ≤ 900) (hw : s.ws.length < 1000000)
    (q : ∀ h' o b2 p, Fx C h h' → WK C hg h' { s with cnt := s.cnt + 1, opn := s.opn + 1, ws := s.ws ++ [.ref o], bd := b2, own := own, home := .str y.nm, due := .ref p } → TO 0 hg wd.bd p → h'[o]? = some (.ins n_BackWait [(n_bound, .ref s.bd), (n_own, s.own), (n_home, s.home)]) → (b2 ≠ C.w ∧ b2 ≠ C.wl ∧ b2 ≠ C.ml) → h'[b2]? = some (.lst ((zipB wd.ps vs).map bV)) → R h') :
    callS sgT (k + 3) (.fn n_Walk_enter) [.ref C.w, spV (some (y, i)), own, .ref va] h (fun _ h'' => R h'') X := by
  refine xFn (d := d_Walk_enter) rfl rfl ?_
  refine sIf (r := false) (tC (xAtV (i := 0) rfl W.ob rfl rfl (xAtV (i := 0) rfl W.ob rfl rfl (cEqI ⟨by simp [e], sEnd ?_⟩))))
  refine inc_cnt G W rfl fun h2 F2 W2 => ?_
  refine sIf (r := false) (tC (xAtV (i := 0) rfl W2.ob rfl rfl (xG rfl (cEqI ⟨by simp [e2], ?_⟩))))
  obtain ⟨kwb, ek, hwb⟩ := G.words
  obtain ⟨a, tv, q1, q2, q3⟩ := hwb y my
  have up2 : ∀ {a : Nat} {o : PO}, isFrl o = false → hg[a]? = some o → h2[a]? = some o := fun f e => W2.gd.at_ _ _ (Nat.zero_le _) f e
  obtain ⟨tvi, et⟩ : ∃ t, tv[i]? = some t := by
    have l1 := WT.len q3
    have l2 := (List.getElem?_eq_some_iff.mp ew).1
    exact ⟨tv[i]'(by omega), List.getElem?_eq_getElem _⟩
  obtain ⟨wd', p, ew', rfl, to⟩ := WT.get q3 et
  rw [ew] at ew'; cases ew'
  refine sAs (by show 4 < 7; decide) (xIdx (xIdx (xAtV (i := 0) (p := C.w) rfl W2.ob rfl rfl (xIdx (xV (i := 1) rfl (xI ⟨_, rfl, _, _, up2 rfl ek, q1, xIdx (xV (i := 1) rfl (xI ⟨_, rfl, _, _, lst_got (up2 rfl q2), at_thing et, ?_⟩))⟩))))))
  refine put_wait (i := 0) G W2 rfl hw (xMk (aC (xAtV (i := 0) (p := C.w) rfl W2.ob rfl rfl (aC (xAtV (i := 0) (p := C.w) rfl W2.ob rfl rfl (a1 (xAtV (i := 0) (p := C.w) rfl W2.ob rfl rfl (s_mk_Back fun h3 g3 e3 => ⟨g3, fun h4 F4 W4 => ?_⟩))))))))
  have F4' : Fx C h2 h4 := Stays.trans g3.stays F4
  have eo := F4.ins (W2.fx G g3) e3 (by decide)
  refine inc_opn G W4 rfl fun h5 F5 W5 => ?_
  have ev5 := Fx.keep (F2.trans (F4'.trans F5)) W ev nv.1 nv.2.1 nv.2.2
  refine set_bound (i := 0) (a := 0) (s := { s with cnt := s.cnt + 1, opn := s.opn + 1, ws := s.ws ++ [.ref h2.length] }) G rfl (s_bind (by show 5 < 7; decide) (by show 6 < 7; decide) (by decide) (fun S r => xIdx (xV (i := 4) rfl (xI ⟨_, rfl, r⟩))) (fun S r => xV (i := 3) rfl r) ev5 hz fun h6 g6 e6 => ⟨_, rfl, W5.fx G g6, fun h7 F7 W7 => ?_⟩)
  have eo7 := F7.ins (W5.fx G g6) (g6.get (F5.ins W4 eo (by decide))) (by decide)
  have nb := W5.fresh (Nat.le_refl h5.length)
  have e7 := F7.keep (W5.fx G g6) e6 nb.1 nb.2.1 nb.2.2
  refine set_own (i := 0) G W7 rfl (fun R r => xV (i := 2) rfl r) fun h8 F8 W8 => ?_
  refine set_home (i := 0) G W8 rfl (fun R r => xIdx (xV (i := 1) rfl (xI ⟨_, rfl, r⟩))) fun h9 F9 W9 => ?_
  refine set_due (i := 0) G W9 rfl (fun R r => xIdx (xV (i := 4) rfl (xI ⟨_, rfl, r⟩))) fun h10 F10 W10 => sEnd ?_
  have F710 := (F8.trans F9).trans F10
  refine q h10 h2.length h5.length p ?_ W10 to (Fx.ins F710 W7 eo7 (by decide)) nb (Fx.keep F710 W7 e7 nb.1 nb.2.1 nb.2.2)
  exact ((((F2.trans F4').trans F5).trans g6.stays).trans F7).trans F710
/-- a call: its thing's house is looked through -/
theorem s_call_done {m i : Nat} {y z : Hs} {es : List Hs} {w : Str} {vs : List PV} {held : PV} (G : WG C hg) (W : WK C hg h s) (A : GA C hg h g n_CallWait lg kg n_called (.str w) [] (thV m :: vs)) (em : s.ms[m]? = some (.tup [.str y.nm, held])) (c : Ch C.hs y es) (hz : es.length ≤ 900) (ef : fnd w (y :: es) = some (z, i))
    (q : ∀ h' va, Gr h h' → h'[va]? = some (.lst vs) → h.length ≤ va → callS sgT (k + 3) (.fn n_Walk_enter) [.ref C.w, spV (some (z, i)), thV m, .ref va] h' (fun _ h'' => R h'') X) : callS sgT (k + 4) (.fn n_CallWait_gathered) [.ref g, .ref C.w] h (fun _ h'' => R h'') X := by
  refine xFn (d := d_CallWait_gathered) rfl rfl ?_
  refine sAs (by show 2 < 4; decide) (xIdx (xAtV (i := 0) rfl A.ob rfl rfl (xI ⟨_, thV m, lst_got A.ek, ?_, ?_⟩)))
  · exact atI_nat (k := 0)
  obtain ⟨_, _, _, _, _, _, _, eh, _⟩ := (G.hall.fm W.gd).ex
  refine sAs (by show 3 < 4; decide) (xMt (xAtV (i := 1) (p := C.w) rfl W.ob rfl rfl ⟨C.hp, _, _, _, rfl, eh, rfl, ?_⟩))
  refine aC (xIdx (xIdx (xAtV (i := 1) (p := C.w) rfl W.ob rfl rfl (xIdx (xV (i := 2) rfl (xI ⟨_, rfl, _, _, lst_got W.lm, at_thing em, xI ⟨_, rfl, ?_⟩⟩))))))
  refine a1 (xAtV (i := 0) rfl A.ob rfl rfl (s_found (k := k + 1) (G.hall.fm W.gd) c hz fun h1 g1 => ?_))
  rw [ef]
  refine sE_ (xMt (xV (i := 1) rfl ⟨C.w, _, _, _, rfl, g1.get W.ob, rfl, ?_⟩))
  refine aC (xV (i := 3) rfl (aC (xV (i := 2) rfl (a1 (xSlc (xAtV (i := 0) rfl (g1.get A.ob) rfl rfl (xOS (i := 1) (xI ⟨rfl, xON ?_⟩))))))))
  refine ⟨_, lst_got (g1.get A.ek), ?_⟩
  have N := Nw.of (h := h1) (o := .lst (cut (thV m :: vs) (some 1) none))
  have e1 : cut (thV m :: vs) (some 1) none = vs := by
    unfold cut sIx
    simp
  rw [e1] at N ⊢
  exact cM (q _ h1.length (Gr.nw g1 N) N.at_ g1.le) fun _ _ r => r
theorem s_elder_done {i : Nat} {x e z : Hs} {es : List Hs} {w : Str} {vs : List PV} (G : WG C hg) (W : WK C hg h s) (A : GA C hg h g n_ElderWait lg kg n_called (.str w) [] vs) (eh0 : s.home = .str x.nm) (c : Ch C.hs x (e :: es)) (hz : es.length ≤ 899) (ef : fnd w (e :: es) = some (z, i))
    (q : ∀ h', Gr h h' → callS sgT (k + 3) (.fn n_Walk_enter) [.ref C.w, spV (some (z, i)), s.own, .ref kg] h' (fun _ h'' => R h'') X) : callS sgT (k + 4) (.fn n_ElderWait_gathered) [.ref g, .ref C.w] h (fun _ h'' => R h'') X := by
  refine xFn (d := d_ElderWait_gathered) rfl rfl ?_
  obtain ⟨_, _, _, _, _, _, _, eh, _⟩ := (G.hall.fm W.gd).ex
  have ce : Ch C.hs e es := by cases c; assumption
  refine sAs (by show 2 < 3; decide) (xIdx (xMt (xAtV (i := 1) (p := C.w) rfl W.ob rfl rfl ⟨C.hp, _, _, _, rfl, eh, rfl, a1 (xAtV (i := 1) (p := C.w) rfl W.ob rfl rfl ?_)⟩)))
  rw [eh0]
  refine s_elders (k := k + 2) (G.hall.fm W.gd) c (by simp; omega) fun h1 g1 e1 => xI ⟨_, .str e.nm, lst_got e1, atI_nat (k := 0), ?_⟩
  have W1 := W.fx G g1
  refine sE_ (xMt (xV (i := 1) rfl ⟨C.w, _, _, _, rfl, W1.ob, rfl, aC (xMt (xAtV (i := 1) (p := C.w) rfl W1.ob rfl rfl ⟨C.hp, _, _, _, rfl, g1.get eh, rfl, aC (xV (i := 2) rfl (a1 (xAtV (i := 0) rfl (g1.get A.ob) rfl rfl (s_found (k := k + 1) ((G.hall.fm W.gd).gr g1) ce (by omega) fun h2 g2 => ?_))))⟩))⟩))
  rw [ef]
  have W2 := W1.fx G g2
  refine aC (xAtV (i := 1) (p := C.w) rfl W2.ob rfl rfl (a1 (xAtV (i := 0) rfl (Gr.get (g1.trans g2) A.ob) rfl rfl (cM (q h2 (g1.trans g2)) fun _ _ r => r))))
end
end Py

set_option Elab.async false
set_option linter.all false
set_option maxRecDepth 100000
set_option maxHeartbeats 4000000
/-! What a program comes to, by big steps. -/
namespace Py
open PySem
structure Cx where
  own : PV
  home : PV
  bd : Bd
  opn : Int
structure Sta where
  ms : List PV
  cnt : Int
inductive Jb where
  | tm (t : Tm) | tms (ts : List Tm) | ent (y : Hs) (i : Nat) (own : PV) (vs : List PV)
inductive Ou where
  | val (v : PV) | vals (vs : List PV) | stop (a : PV)
def sgn (w : String) : Prop := w = "+" ∨ w = "-" ∨ w = "*" ∨ w = "<" ∨ w = "/"
inductive Ev (C : WC) : Nat → Jb → Cx → Sta → Ou → Sta → Prop
  | num {n : Nat} {i : Int} {cx : Cx} {st : Sta} : Ev C n (.tm (.num i)) cx st (.val (.int i)) st
  | tru {n : Nat} {i : Bool} {cx : Cx} {st : Sta} : Ev C n (.tm (.tru i)) cx st (.val (.bl i)) st
  | nam {n : Nat} {x : Str} {v : PV} {cx : Cx} {st : Sta} : lkB x cx.bd = some v → Ev C n (.tm (.nam x)) cx st (.val v) st
  | slf {n : Nat} {cx : Cx} {st : Sta} : Ev C n (.tm .slf) cx st (.val cx.own) st
  | new {n : Nat} {c : Str} {ts : List Tm} {vs : List PV} {cx : Cx} {st st1 : Sta} : ts.length ≤ 900 → Ev C n (.tms ts) cx st (.vals vs) st1 → st1.ms.length < 1000000 → Ev C n (.tm (.new c ts)) cx st (.val (thV st1.ms.length)) ⟨st1.ms ++ [.tup [.str c, .tup vs]], st1.cnt⟩
  | newX {n : Nat} {c : Str} {ts : List Tm} {a : PV} {cx : Cx} {st st1 : Sta} : ts.length ≤ 900 → Ev C n (.tms ts) cx st (.stop a) st1 → Ev C n (.tm (.new c ts)) cx st (.stop a) st1
  | cal {n m i : Nat} {t : Tm} {w : Str} {ts : List Tm} {vs : List PV} {held : PV} {y z : Hs} {es : List Hs} {o : Ou} {cx : Cx} {st st1 st2 : Sta} : ts.length ≤ 899 → Ev C n (.tms (t :: ts)) cx st (.vals (thV m :: vs)) st1 → st1.ms[m]? = some (.tup [.str y.nm, held]) → Ch C.hs y es → es.length ≤ 900 → fnd w (y :: es) = some (z, i) → Ev C n (.ent z i (thV m) vs) cx st1 o st2 → Ev C n (.tm (.cal t w ts)) cx st o st2
  | calX {n : Nat} {t : Tm} {w : Str} {ts : List Tm} {a : PV} {cx : Cx} {st st1 : Sta} : ts.length ≤ 899 → Ev C n (.tms (t :: ts)) cx st (.stop a) st1 → Ev C n (.tm (.cal t w ts)) cx st (.stop a) st1
  | eld {n i : Nat} {w : Str} {ts : List Tm} {vs : List PV} {x e z : Hs} {es : List Hs} {o : Ou} {cx : Cx} {st st1 st2 : Sta} : ts.length ≤ 900 → Ev C n (.tms ts) cx st (.vals vs) st1 → cx.home = .str x.nm → Ch C.hs x (e :: es) → es.length ≤ 899 → fnd w (e :: es) = some (z, i) → Ev C n (.ent z i cx.own vs) cx st1 o st2 → Ev C n (.tm (.eld w ts)) cx st o st2
  | eldX {n : Nat} {w : Str} {ts : List Tm} {a : PV} {cx : Cx} {st st1 : Sta} : ts.length ≤ 900 → Ev C n (.tms ts) cx st (.stop a) st1 → Ev C n (.tm (.eld w ts)) cx st (.stop a) st1
  | fld {n m i : Nat} {t : Tm} {f : Str} {y : Hs} {es : List Hs} {held : List PV} {v : PV} {cx : Cx} {st st1 : Sta} : Ev C n (.tm t) cx st (.val (thV m)) st1 → st1.ms[m]? = some (.tup [.str y.nm, .tup held]) → Ch C.hs y es → es.length ≤ 900 → (flds (y :: es)).length ≤ 900 → plc f (flds (y :: es)) = some i → held[i]? = some v → Ev C (n + 1) (.tm (.fld t f)) cx st (.val v) st1
  | fldX {n : Nat} {t : Tm} {f : Str} {a : PV} {cx : Cx} {st st1 : Sta} : Ev C n (.tm t) cx st (.stop a) st1 → Ev C (n + 1) (.tm (.fld t f)) cx st (.stop a) st1
  | nt {n : Nat} {t : Tm} {b : Bool} {cx : Cx} {st st1 : Sta} : Ev C n (.tm t) cx st (.val (.bl b)) st1 → Ev C (n + 1) (.tm (.nt t)) cx st (.val (.bl !b)) st1
  | ntX {n : Nat} {t : Tm} {a : PV} {cx : Cx} {st st1 : Sta} : Ev C n (.tm t) cx st (.stop a) st1 → Ev C (n + 1) (.tm (.nt t)) cx st (.stop a) st1
  | seq {n : Nat} {a b : Tm} {x y : PV} {cx : Cx} {st st1 : Sta} : Ev C n (.tms [a, b]) cx st (.vals [x, y]) st1 → Ev C n (.tm (.two ";" a b)) cx st (.val y) st1
  | same {n : Nat} {a b : Tm} {x y : PV} {cx : Cx} {st st1 : Sta} : Ev C n (.tms [a, b]) cx st (.vals [x, y]) st1 → okV x = true → okV y = true → Ev C n (.tm (.two "=" a b)) cx st (.val (.bl (PyData.eqv (dat x) (dat y)))) st1
  | two {n : Nat} {w : String} {a b : Tm} {x y : Int} {cx : Cx} {st st1 : Sta} : sgn w → Ev C n (.tms [a, b]) cx st (.vals [.int x, .int y]) st1 → small x → small y → (tw w x y).2 = true → Ev C n (.tm (.two (Str.ofString w) a b)) cx st (.val (tw w x y).1) st1
  | twoR {n : Nat} {w : String} {a b : Tm} {x y : Int} {cx : Cx} {st st1 : Sta} : sgn w → Ev C n (.tms [a, b]) cx st (.vals [.int x, .int y]) st1 → small x → small y → (tw w x y).2 = false → Ev C n (.tm (.two (Str.ofString w) a b)) cx st (.stop (.tup [.str "refused", (tw w x y).1])) st1
  | twoX {n : Nat} {w : Str} {a b : Tm} {e : PV} {cx : Cx} {st st1 : Sta} : Ev C n (.tms [a, b]) cx st (.stop e) st1 → Ev C n (.tm (.two w a b)) cx st (.stop e) st1
  | ite {n : Nat} {a b c : Tm} {r : Bool} {o : Ou} {cx : Cx} {st st1 st2 : Sta} : Ev C n (.tm a) cx st (.val (.bl r)) st1 → Ev C (n + 1) (.tm (if r then b else c)) cx st1 o st2 → Ev C (n + 1) (.tm (.ite a b c)) cx st o st2
  | iteX {n : Nat} {a b c : Tm} {e : PV} {cx : Cx} {st st1 : Sta} : Ev C n (.tm a) cx st (.stop e) st1 → Ev C (n + 1) (.tm (.ite a b c)) cx st (.stop e) st1
  | lett {n : Nat} {x : Str} {a b : Tm} {v : PV} {o : Ou} {cx : Cx} {st st1 st2 : Sta} : Ev C n (.tm a) cx st (.val v) st1 → cx.bd.length < 1000000 → Ev C n (.tm b) ⟨cx.own, cx.home, cx.bd ++ [(x, v)], cx.opn⟩ st1 o st2 → Ev C (n + 1) (.tm (.lett x a b)) cx st o st2
  | letX {n : Nat} {x : Str} {a b : Tm} {e : PV} {cx : Cx} {st st1 : Sta} : Ev C n (.tm a) cx st (.stop e) st1 → Ev C (n + 1) (.tm (.lett x a b)) cx st (.stop e) st1
  | sett {n m i : Nat} {t b : Tm} {f : Str} {y : Hs} {es : List Hs} {held : List PV} {v : PV} {cx : Cx} {st st1 : Sta} : Ev C n (.tms [t, b]) cx st (.vals [thV m, v]) st1 → st1.ms[m]? = some (.tup [.str y.nm, .tup held]) → Ch C.hs y es → es.length ≤ 900 → (flds (y :: es)).length ≤ 900 → plc f (flds (y :: es)) = some i → i < held.length → held.length ≤ 900 → Ev C n (.tm (.sett t f b)) cx st (.val v) ⟨st1.ms.set m (.tup [.str y.nm, .tup (held.set i v)]), st1.cnt⟩
  | setX {n : Nat} {t b : Tm} {f : Str} {e : PV} {cx : Cx} {st st1 : Sta} : Ev C n (.tms [t, b]) cx st (.stop e) st1 → Ev C n (.tm (.sett t f b)) cx st (.stop e) st1
  | nil {n : Nat} {cx : Cx} {st : Sta} : Ev C n (.tms []) cx st (.vals []) st
  | cons {n : Nat} {t : Tm} {ts : List Tm} {v : PV} {vs : List PV} {cx : Cx} {st st1 st2 : Sta} : Ev C n (.tm t) cx st (.val v) st1 → Ev C (n + 1) (.tms ts) cx st1 (.vals vs) st2 → Ev C (n + 1) (.tms (t :: ts)) cx st (.vals (v :: vs)) st2
  | consX {n : Nat} {t : Tm} {ts : List Tm} {e : PV} {cx : Cx} {st st1 : Sta} : Ev C n (.tm t) cx st (.stop e) st1 → Ev C (n + 1) (.tms (t :: ts)) cx st (.stop e) st1
  | consY {n : Nat} {t : Tm} {ts : List Tm} {v e : PV} {cx : Cx} {st st1 st2 : Sta} : Ev C n (.tm t) cx st (.val v) st1 → Ev C (n + 1) (.tms ts) cx st1 (.stop e) st2 → Ev C (n + 1) (.tms (t :: ts)) cx st (.stop e) st2
  | dry {n i : Nat} {y : Hs} {own : PV} {vs : List PV} {cx : Cx} {st : Sta} : st.cnt = C.most → Ev C n (.ent y i own vs) cx st (.stop (.tup [.str "dry"])) st
  | deep {n i : Nat} {y : Hs} {own : PV} {vs : List PV} {cx : Cx} {st : Sta} : st.cnt ≠ C.most → cx.opn = 40 → Ev C n (.ent y i own vs) cx st (.stop (.tup [.str "deep"])) ⟨st.ms, st.cnt + 1⟩
  | go {n i : Nat} {y : Hs} {own : PV} {vs : List PV} {wd : Wd} {o : Ou} {cx : Cx} {st st1 : Sta} : st.cnt ≠ C.most → cx.opn ≠ 40 → y ∈ C.hs → y.ws[i]? = some wd → vs.length ≤ 900 → Ev C n (.tm wd.bd) ⟨own, .str y.nm, zipB wd.ps vs, cx.opn + 1⟩ ⟨st.ms, st.cnt + 1⟩ o st1 → Ev C (n + 1) (.ent y i own vs) cx st o st1
/-- the walk stands so -/
structure Mt (C : WC) (h : PH) (s : WS) (cx : Cx) (st : Sta) : Prop where
  own : s.own = cx.own
  home : s.home = cx.home
  opn : s.opn = cx.opn
  bd : h[s.bd]? = some (.lst (cx.bd.map bV))
  nb : s.bd ≠ C.w ∧ s.bd ≠ C.wl ∧ s.bd ≠ C.ml
  ms : s.ms = st.ms
  cnt : s.cnt = st.cnt
  en : s.ended = .non
/-- .. with what came of a term -/
def put (s : WS) (v : PV) (st : Sta) : WS := { s with due := .non, got := v, ms := st.ms, cnt := st.cnt }
structure GCls (c F f : Nat) : Prop where
  nc : c ≠ n_Walk
  ex : ∃ cd, sgT.cls c = some cd ∧ sgT.fn cd.init = some ⟨2, 2, .cons (.exp (.ini n_GatherWait (.cons (.var 0) (.cons (.meth (.var 1) n_parts .nil) .nil)))) (.cons (.asg (.attr (.var 0) F) (.attr (.var 1) F)) .nil), [], none⟩
  f1 : fld sgT c n_left = true
  f2 : fld sgT c n_known = true
  f3 : fld sgT c F = true
  n1 : n_left ≠ F
  n2 : n_known ≠ F
  bg : mth sgT c n_begins = some n_GatherWait_begins
  go : mth sgT c n_goes_on = some n_GatherWait_goes_on
  gd : mth sgT c n_gathered = some f
theorem gcNew : GCls n_NewWait n_called n_NewWait_gathered := ⟨by decide, ⟨_, rfl, rfl⟩, rfl, rfl, rfl, by decide, by decide, rfl, rfl, rfl⟩
theorem gcCall : GCls n_CallWait n_called n_CallWait_gathered := ⟨by decide, ⟨_, rfl, rfl⟩, rfl, rfl, rfl, by decide, by decide, rfl, rfl, rfl⟩
theorem gcElder : GCls n_ElderWait n_called n_ElderWait_gathered := ⟨by decide, ⟨_, rfl, rfl⟩, rfl, rfl, rfl, by decide, by decide, rfl, rfl, rfl⟩
theorem gcTwo : GCls n_TwoWait n_sign n_TwoWait_gathered := ⟨by decide, ⟨_, rfl, rfl⟩, rfl, rfl, rfl, by decide, by decide, rfl, rfl, rfl⟩
theorem gcSet : GCls n_SetWait n_called n_SetWait_gathered := ⟨by decide, ⟨_, rfl, rfl⟩, rfl, rfl, rfl, by decide, by decide, rfl, rfl, rfl⟩
abbrev Cp : Nat := 1000000
/-- all is over by a -/
def Over (C : WC) (hg : PH) (k : Nat) (l : Loc) (D : En) (m : Nat) (a : PV) (st : Sta) : Prop := ∀ h' s', WK C hg h' s' → s'.ended = a → s'.ms = st.ms → s'.cnt = st.cnt → Go (k + 12) l D m h'
def Spec (C : WC) (hg : PH) (n : Nat) : Jb → Cx → Sta → Ou → Sta → Prop
  | .tm t, cx, st, .val v, st' => ∃ j, ∀ (k : Nat) (l : Loc) (D : En) (m : Nat) (h : PH) (s : WS) (p : Nat), l[3]? = some (some (.ref C.w)) → WK C hg h s → Mt C h s cx st → s.ws.length + n < Cp → s.due = .ref p → TO 0 hg t p → (∀ h', Fx C h h' → WK C hg h' (put s v st') → Go (k + 12) l D m h') → Go (k + 12) l D (m + j) h
  | .tm t, cx, st, .stop a, st' => ∃ j, ∀ (k : Nat) (l : Loc) (D : En) (m : Nat) (h : PH) (s : WS) (p : Nat), l[3]? = some (some (.ref C.w)) → WK C hg h s → Mt C h s cx st → s.ws.length + n < Cp → s.due = .ref p → TO 0 hg t p → Over C hg k l D m a st' → Go (k + 12) l D (m + j) h
  | .tms ts, cx, st, .vals vs, st' => ∃ j, ∀ (k kk : Nat) (l : Loc) (D : En) (m : Nat) (h : PH) (s : WS) (g c lg kg F f : Nat) (v : PV) (us : List PV) (ps : List Nat), l[3]? = some (some (.ref C.w)) → WK C hg h s → Mt C h s cx st → s.ws.length + n < Cp → s.due = .non → (s.bd ≠ lg ∧ s.bd ≠ kg) → GCls c F f → GA C hg h g c lg kg F v (ps.map .ref) us → TOs 0 hg ts ps → us.length + ts.length ≤ 1000 →
      (∀ kk' h' x, Stays [C.w, C.wl, C.ml, lg, kg] h h' → WK C hg h' (put s x st') → GA C hg h' g c lg kg F v [] (us ++ vs) → callS sgT (kk' + 5) (.fn f) [.ref g, .ref C.w] h' (fun _ h'' => Go (k + 12) l D m h'') (fun x h' => D.ex x l h')) →
      callS sgT (kk + 8) (.fn n_GatherWait_begins) [.ref g, .ref C.w] h (fun _ h'' => Go (k + 12) l D (m + j) h'') (fun x h' => D.ex x l h')
  | .tms ts, cx, st, .stop a, st' => ∃ j, ∀ (k kk : Nat) (l : Loc) (D : En) (m : Nat) (h : PH) (s : WS) (g c lg kg F f : Nat) (v : PV) (us : List PV) (ps : List Nat), l[3]? = some (some (.ref C.w)) → WK C hg h s → Mt C h s cx st → s.ws.length + n < Cp → s.due = .non → (s.bd ≠ lg ∧ s.bd ≠ kg) → GCls c F f → GA C hg h g c lg kg F v (ps.map .ref) us → TOs 0 hg ts ps → us.length + ts.length ≤ 1000 → Over C hg k l D m a st' →
      callS sgT (kk + 8) (.fn n_GatherWait_begins) [.ref g, .ref C.w] h (fun _ h'' => Go (k + 12) l D (m + j) h'') (fun x h' => D.ex x l h')
  | .ent y i own vs, cx, st, .val u, st' => ∃ j, ∀ (k kk : Nat) (l : Loc) (D : En) (m : Nat) (h : PH) (s : WS) (va : Nat), l[3]? = some (some (.ref C.w)) → WK C hg h s → Mt C h s cx st → s.ws.length + n < Cp → s.due = .non → h[va]? = some (.lst vs) → (va ≠ C.w ∧ va ≠ C.wl ∧ va ≠ C.ml) → (∀ h', Fx C h h' → WK C hg h' (put s u st') → Go (k + 12) l D m h') →
      callS sgT (kk + 3) (.fn n_Walk_enter) [.ref C.w, spV (some (y, i)), own, .ref va] h (fun _ h'' => Go (k + 12) l D (m + j) h'') (fun x h' => D.ex x l h')
  | .ent y i own vs, cx, st, .stop a, st' => ∃ j, ∀ (k kk : Nat) (l : Loc) (D : En) (m : Nat) (h : PH) (s : WS) (va : Nat), l[3]? = some (some (.ref C.w)) → WK C hg h s → Mt C h s cx st → s.ws.length + n < Cp → s.due = .non → h[va]? = some (.lst vs) → (va ≠ C.w ∧ va ≠ C.wl ∧ va ≠ C.ml) → Over C hg k l D m a st' →
      callS sgT (kk + 3) (.fn n_Walk_enter) [.ref C.w, spV (some (y, i)), own, .ref va] h (fun _ h'' => Go (k + 12) l D (m + j) h'') (fun x h' => D.ex x l h')
  | _, _, _, _, _ => False
section
variable {C : WC} {hg h h' : PH} {s s' : WS} {k n m : Nat} {l : Loc} {D : En} {cx : Cx} {st st' : Sta}
/-- the term at p, as it stands now -/
theorem to_at {t : Tm} {p : Nat} (W : WK C hg h s) (to : TO 0 hg t p) : ∃ ps own il i j, h[p]? = some (.ins (tmCl t) (bas il i j ++ own)) ∧ h[il]? = some (.lst (ps.map .ref)) ∧ TOs 0 hg (parts t) ps := by
  obtain ⟨ps, own, ⟨il, i, j, _, _, e1, e2⟩, ts⟩ := to.hd
  exact ⟨ps, own, il, i, j, W.gd.at_ _ _ (Nat.zero_le _) rfl e1, W.gd.at_ _ _ (Nat.zero_le _) rfl e2, ts⟩
/-- a term's object, with its own fields told -/
theorem hd_at {c p : Nat} {ps : List Nat} {own : List (Nat × PV)} (G : WG C hg) (W : WK C hg h s) (a : Hd 0 hg c p ps own) : ∃ il i j, h[p]? = some (.ins c (bas il i j ++ own)) ∧ h[il]? = some (.lst (ps.map .ref)) ∧ il ≠ C.w ∧ il ≠ C.wl ∧ il ≠ C.ml := by
  obtain ⟨il, i, j, _, _, e1, e2⟩ := a
  exact ⟨il, i, j, W.gd.at_ _ _ (Nat.zero_le _) rfl e1, W.gd.at_ _ _ (Nat.zero_le _) rfl e2, fun z => (by rw [z, G.fw] at e2; cases e2), fun z => (by rw [z, G.fl] at e2; cases e2), fun z => (by rw [z, G.fm] at e2; cases e2)⟩
theorem clsT_ne (t : Tm) : tmCl t ≠ n_Walk := by intro e; cases t <;> (simp only [tmCl] at e; revert e; decide)
/-- a gatherer begins -/
theorem go_G {c F f p tc il a fm mm : Nat} {i j : Int} {own : List (Nat × PV)} {ps : List Nat} {v : PV} (hl : l[3]? = some (some (.ref C.w))) (G : WG C hg) (W : WK C hg h s) (en : s.ended = .non) (ed : s.due = .ref p) (K : GCls c F f) (ep : h[p]? = some (.ins tc (bas il i j ++ own))) (nc : tc ≠ n_Walk) (el : h[il]? = some (.lst (ps.map .ref)))
    (hm : mth sgT tc n_meet = some fm) (hd : sgT.fn fm = some ⟨2, 2, .cons (.ret (.meth (.var 1) mm (.cons (.var 0) .nil))) .nil, [], none⟩) (ha : mth sgT n_Walk mm = some a) (hda : sgT.fn a = some ⟨2, 2, .cons (.exp (.meth (.mk c (.cons (.var 1) .nil)) n_begins (.cons (.var 0) .nil))) .nil, [], none⟩)
    (hp : mth sgT tc n_parts = some n_Term_parts) (hi : fld sgT tc n_inner = true) (hF : fld sgT tc F = true) (gF : getN F (bas il i j ++ own) = some v)
    (nil_ : il ≠ C.w ∧ il ≠ C.wl ∧ il ≠ C.ml)
    (q : ∀ h' g lg kg, Fx C h h' → (h.length ≤ lg ∧ h.length ≤ kg) → WK C hg h' { s with due := .non } → GA C hg h' g c lg kg F v (ps.map .ref) [] → callS sgT (k + 9) (.fn n_GatherWait_begins) [.ref g, .ref C.w] h' (fun _ h'' => Go (k + 12) l D n h'') (fun x h' => D.ex x l h')) : Go (k + 12) l D (n + 1) h := by
  refine go_at hl G W en ed ep nc hm hd ha fun h1 F1 W1 => ?_
  refine xFn hda rfl ?_
  obtain ⟨cd, ec, hcd⟩ := K.ex
  refine sE_ (xMt (xMk (a1 (xV (i := 1) rfl (s_mkGA (k := k + 5) W1 K.nc ec hcd K.f1 K.f2 K.f3 K.n1 K.n2 (F1.ins W ep nc) hp hi hF gF (F1.keep W el nil_.1 nil_.2.1 nil_.2.2) fun h2 lg kg g2 ll lk A => ?_)))))
  exact ⟨h1.length, _, _, _, rfl, A.ob, K.bg, a1 (xV (i := 0) rfl (cM (q h2 _ lg kg (Stays.trans F1 g2.stays) ⟨by have := F1.le; omega, by have := F1.le; omega⟩ (W1.fx G g2) A) fun _ _ r => sEnd r))⟩
end
end Py

set_option Elab.async false
set_option linter.all false
set_option maxRecDepth 100000
set_option maxHeartbeats 8000000
/-! The walk does what the big steps tell. -/
namespace Py
open PySem
section
variable {C : WC} {hg h h' : PH} {s s' : WS} {k n m : Nat} {l : Loc} {D : En} {cx : Cx} {st st1 st' : Sta}
theorem Mt.fx (M : Mt C h s cx st) (W : WK C hg h s) (F : Fx C h h') (own : s'.own = s.own) (home : s'.home = s.home) (opn : s'.opn = s.opn) (bd : s'.bd = s.bd) (ms : s'.ms = st1.ms) (cnt : s'.cnt = st1.cnt) (en : s'.ended = .non) : Mt C h' s' cx st1 :=
  ⟨own.trans M.own, home.trans M.home, opn.trans M.opn, by rw [bd]; exact F.keep W M.bd M.nb.1 M.nb.2.1 M.nb.2.2, by rw [bd]; exact M.nb, ms, cnt, en⟩
theorem put_eq (M : Mt C h s cx st) {v : PV} : put s v st = { s with due := .non, got := v } := by
  unfold put
  rw [← M.ms, ← M.cnt]
/-- terms without parts -/
theorem sp_leaf {t : Tm} {v : PV} (q : ∀ (k : Nat) (h : PH) (s : WS) (p : Nat) (l : Loc) (D : En) (m : Nat), l[3]? = some (some (.ref C.w)) → WK C hg h s → Mt C h s cx st → s.due = .ref p → TO 0 hg t p → (∀ h', Fx C h h' → WK C hg h' { s with due := .non, got := v } → Go (k + 12) l D m h') → Go (k + 12) l D (m + 1) h) : Spec C hg n (.tm t) cx st (.val v) st :=
  ⟨1, fun k l D m h s p hl W M _ ed to c => q k h s p l D m hl W M ed to fun h' F W' => c h' F (by rw [put_eq M]; exact W')⟩
theorem sp_num (G : WG C hg) {i : Int} : Spec C hg n (.tm (.num i)) cx st (.val (.int i)) st := sp_leaf fun k h s p l D m hl W M ed to c => by
  obtain ⟨il, a, b, e, _⟩ := hd_at G W to
  exact go_at hl G W M.en ed e (by decide) rfl rfl rfl fun h1 F1 W1 => s_at_number G W1 to fun h2 F2 W2 => c h2 (F1.trans F2) W2
theorem sp_tru (G : WG C hg) {i : Bool} : Spec C hg n (.tm (.tru i)) cx st (.val (.bl i)) st := sp_leaf fun k h s p l D m hl W M ed to c => by
  obtain ⟨il, a, b, e, _⟩ := hd_at G W to
  exact go_at hl G W M.en ed e (by decide) rfl rfl rfl fun h1 F1 W1 => s_at_truth G W1 to fun h2 F2 W2 => c h2 (F1.trans F2) W2
theorem sp_slf (G : WG C hg) : Spec C hg n (.tm .slf) cx st (.val cx.own) st := sp_leaf fun k h s p l D m hl W M ed to c => by
  obtain ⟨il, a, b, e, _⟩ := hd_at G W to
  exact go_at hl G W M.en ed e (by decide) rfl rfl rfl fun h1 F1 W1 => s_at_self G W1 fun h2 F2 W2 => c h2 (F1.trans F2) (by rw [← M.own]; exact W2)
theorem sp_nam (G : WG C hg) {x : Str} {v : PV} (ev : lkB x cx.bd = some v) : Spec C hg n (.tm (.nam x)) cx st (.val v) st := sp_leaf fun k h s p l D m hl W M ed to c => by
  obtain ⟨il, a, b, e, _⟩ := hd_at G W to
  exact go_at hl G W M.en ed e (by decide) rfl rfl rfl fun h1 F1 W1 => s_at_name G W1 to M.nb (F1.keep W M.bd M.nb.1 M.nb.2.1 M.nb.2.2) ev fun h2 F2 W2 => c h2 (F1.trans F2) W2
/-! ### terms whose parts are gathered -/
abbrev Fin (C : WC) (hg : PH) (k : Nat) (l : Loc) (D : En) (m : Nat) (h : PH) (s : WS) : Ou → Sta → Prop
  | .val v, st' => ∀ h', Fx C h h' → WK C hg h' (put s v st') → Go (k + 12) l D m h'
  | .stop a, st' => Over C hg k l D m a st'
  | .vals _, _ => False
/-- what a gathering term is: its parts, its gatherer -/
structure GTm (t : Tm) (c F f : Nat) (v : PV) : Prop where
  K : GCls c F f
  at_ : ∃ fm mm a, mth sgT (tmCl t) n_meet = some fm ∧ sgT.fn fm = some ⟨2, 2, .cons (.ret (.meth (.var 1) mm (.cons (.var 0) .nil))) .nil, [], none⟩ ∧ mth sgT n_Walk mm = some a ∧ sgT.fn a = some ⟨2, 2, .cons (.exp (.meth (.mk c (.cons (.var 1) .nil)) n_begins (.cons (.var 0) .nil))) .nil, [], none⟩
  hp : mth sgT (tmCl t) n_parts = some n_Term_parts
  hF : fld sgT (tmCl t) F = true
  gF : ∀ n h p, TO n h t p → ∃ ps own, Hd n h (tmCl t) p ps own ∧ TOs n h (parts t) ps ∧ ∀ il i j, getN F (bas il i j ++ own) = some v
  len : (parts t).length ≤ 900
theorem go_T {t : Tm} {c F f p : Nat} {v : PV} (T : GTm t c F f v) (hl : l[3]? = some (some (.ref C.w))) (G : WG C hg) (W : WK C hg h s) (M : Mt C h s cx st) (ed : s.due = .ref p) (to : TO 0 hg t p)
    (q : ∀ h' g lg kg ps, Fx C h h' → (h.length ≤ lg ∧ h.length ≤ kg) → WK C hg h' { s with due := .non } → GA C hg h' g c lg kg F v (ps.map .ref) [] → TOs 0 hg (parts t) ps → callS sgT (k + 9) (.fn n_GatherWait_begins) [.ref g, .ref C.w] h' (fun _ h'' => Go (k + 12) l D n h'') (fun x h' => D.ex x l h')) : Go (k + 12) l D (n + 1) h := by
  obtain ⟨ps, own, hd, ts, gf⟩ := T.gF 0 hg p to
  obtain ⟨fm, mm, a, q1, q2, q3, q4⟩ := T.at_
  obtain ⟨il, i, j, e1, e2, nn⟩ := hd_at G W hd
  refine go_G hl G W M.en ed T.K e1 (clsT_ne t) e2 q1 q2 q3 q4 T.hp (fld_h t).2.2 T.hF (gf il i j) nn fun h' g lg kg F' ll W' A => q h' g lg kg ps F' ll W' A ts
theorem Fx.out {h1 h2 : PH} {lg kg : Nat} (F : Fx C h h1) (s : Stays [C.w, C.wl, C.ml, lg, kg] h1 h2) (ll : h.length ≤ lg ∧ h.length ≤ kg) : Fx C h h2 := ⟨Nat.le_trans F.le s.le, fun a o n e => by
  have l1 := lt_of e
  refine s.at_ a o ?_ (F.at_ a o n e)
  simp only [List.mem_cons, List.not_mem_nil, or_false, not_or] at n ⊢
  exact ⟨n.1, n.2.1, n.2.2, by omega, by omega⟩⟩
theorem put_put {v x : PV} : put { s with due := .non } v st = put s v st := rfl
/-- gathered, and done at once -/
theorem sp_G (G : WG C hg) {t : Tm} {c F f : Nat} {v0 v : PV} {vs : List PV} (T : GTm t c F f v0) (S : Spec C hg n (.tms (parts t)) cx st (.vals vs) st1) (fin : ∀ (kk : Nat) (h : PH) (s : WS) (g lg kg : Nat) (Q : PH → Prop) (X : KX), WK C hg h s → s.ms = st1.ms → s.cnt = st1.cnt → s.ended = .non → s.due = .non → GA C hg h g c lg kg F v0 [] vs → (∀ h', Fx C h h' → WK C hg h' (put s v st') → Q h') → callS sgT (kk + 5) (.fn f) [.ref g, .ref C.w] h (fun _ h'' => Q h'') X) : Spec C hg n (.tm t) cx st (.val v) st' := by
  obtain ⟨j, S⟩ := S
  refine ⟨j + 1, fun k l D m h s p hl W M hz ed to c => ?_⟩
  refine go_T (n := m + j) T hl G W M ed to fun h1 g lg kg ps F1 ll W1 A ts => ?_
  refine S k (k + 1) l D m h1 { s with due := .non } g _ lg kg _ _ v0 [] ps hl W1 (M.fx W F1 rfl rfl rfl rfl M.ms M.cnt M.en) hz rfl (by have := lt_of M.bd; exact ⟨by show s.bd ≠ lg; omega, by show s.bd ≠ kg; omega⟩) T.K A ts (by have := T.len; simp; omega) fun kk h2 x S2 W2 A2 => ?_
  exact fin kk h2 _ g lg kg _ _ W2 rfl rfl M.en rfl A2 fun h3 F3 W3 => c h3 ((F1.out S2 ll).trans F3) W3
/-- gathered, and over by that -/
theorem sp_GR (G : WG C hg) {t : Tm} {c F f : Nat} {v0 a : PV} {vs : List PV} (T : GTm t c F f v0) (S : Spec C hg n (.tms (parts t)) cx st (.vals vs) st1) (fin : ∀ (kk : Nat) (h : PH) (s : WS) (g lg kg : Nat) (Q : PH → Prop) (X : KX), WK C hg h s → s.ms = st1.ms → s.cnt = st1.cnt → s.ended = .non → s.due = .non → GA C hg h g c lg kg F v0 [] vs → (∀ h' s', WK C hg h' s' → s'.ended = a → s'.ms = st1.ms → s'.cnt = st1.cnt → Q h') → callS sgT (kk + 5) (.fn f) [.ref g, .ref C.w] h (fun _ h'' => Q h'') X) : Spec C hg n (.tm t) cx st (.stop a) st1 := by
  obtain ⟨j, S⟩ := S
  refine ⟨j + 1, fun k l D m h s p hl W M hz ed to c => ?_⟩
  refine go_T (n := m + j) T hl G W M ed to fun h1 g lg kg ps F1 ll W1 A ts => ?_
  refine S k (k + 1) l D m h1 { s with due := .non } g _ lg kg _ _ v0 [] ps hl W1 (M.fx W F1 rfl rfl rfl rfl M.ms M.cnt M.en) hz rfl (by have := lt_of M.bd; exact ⟨by show s.bd ≠ lg; omega, by show s.bd ≠ kg; omega⟩) T.K A ts (by have := T.len; simp; omega) fun kk h2 x S2 W2 A2 => ?_
  exact fin kk h2 _ g lg kg _ _ W2 rfl rfl M.en rfl A2 c
/-- over while gathering -/
theorem sp_GX (G : WG C hg) {t : Tm} {c F f : Nat} {v0 a : PV} (T : GTm t c F f v0) (S : Spec C hg n (.tms (parts t)) cx st (.stop a) st1) : Spec C hg n (.tm t) cx st (.stop a) st1 := by
  obtain ⟨j, S⟩ := S
  refine ⟨j + 1, fun k l D m h s p hl W M hz ed to c => ?_⟩
  refine go_T (n := m + j) T hl G W M ed to fun h1 g lg kg ps F1 ll W1 A ts => ?_
  exact S k (k + 1) l D m h1 { s with due := .non } g _ lg kg _ _ v0 [] ps hl W1 (M.fx W F1 rfl rfl rfl rfl M.ms M.cnt M.en) hz rfl (by have := lt_of M.bd; exact ⟨by show s.bd ≠ lg; omega, by show s.bd ≠ kg; omega⟩) T.K A ts (by have := T.len; simp; omega) c
theorem gt_new {c : Str} {ts : List Tm} (hz : ts.length ≤ 900) : GTm (.new c ts) n_NewWait n_called n_NewWait_gathered (.str c) := ⟨gcNew, ⟨_, _, _, rfl, rfl, rfl, rfl⟩, rfl, rfl, fun n h p to => let ⟨ps, a, b⟩ := to; ⟨ps, _, a, b, fun _ _ _ => rfl⟩, hz⟩
theorem gt_eld {c : Str} {ts : List Tm} (hz : ts.length ≤ 900) : GTm (.eld c ts) n_ElderWait n_called n_ElderWait_gathered (.str c) := ⟨gcElder, ⟨_, _, _, rfl, rfl, rfl, rfl⟩, rfl, rfl, fun n h p to => let ⟨ps, a, b⟩ := to; ⟨ps, _, a, b, fun _ _ _ => rfl⟩, hz⟩
theorem gt_cal {t : Tm} {c : Str} {ts : List Tm} (hz : ts.length ≤ 899) : GTm (.cal t c ts) n_CallWait n_called n_CallWait_gathered (.str c) := ⟨gcCall, ⟨_, _, _, rfl, rfl, rfl, rfl⟩, rfl, rfl, fun n h p to => let ⟨p1, ps, gl, a, _, b, d⟩ := to; ⟨_, _, a, ⟨_, _, rfl, b, d⟩, fun _ _ _ => rfl⟩, by show ts.length + 1 ≤ 900; omega⟩
theorem gt_two {w : Str} {a b : Tm} : GTm (.two w a b) n_TwoWait n_sign n_TwoWait_gathered (.str w) := ⟨gcTwo, ⟨_, _, _, rfl, rfl, rfl, rfl⟩, rfl, rfl, fun n h p to => let ⟨p1, p2, a, b, d⟩ := to; ⟨_, _, a, ⟨_, _, rfl, b, _, _, rfl, d, rfl⟩, fun _ _ _ => rfl⟩, by show 2 ≤ 900; omega⟩
theorem gt_set {t b : Tm} {f : Str} : GTm (.sett t f b) n_SetWait n_called n_SetWait_gathered (.str f) := ⟨gcSet, ⟨_, _, _, rfl, rfl, rfl, rfl⟩, rfl, rfl, fun n h p to => let ⟨p1, p2, a, b, d⟩ := to; ⟨_, _, a, ⟨_, _, rfl, b, _, _, rfl, d, rfl⟩, fun _ _ _ => rfl⟩, by show 2 ≤ 900; omega⟩
end
end Py

set_option Elab.async false
set_option linter.all false
set_option maxRecDepth 100000
set_option maxHeartbeats 8000000
/-! The walk does what the big steps tell: waits, calls, all of them. -/
namespace Py
open PySem
section
variable {C : WC} {hg h h' : PH} {s s' : WS} {k n m : Nat} {l : Loc} {D : En} {cx : Cx} {st st1 st2 st' : Sta}
/-! ### lists of terms -/
theorem sp_nil (G : WG C hg) : Spec C hg n (.tms []) cx st (.vals []) st := by
  refine ⟨0, fun k kk l D m h s g c lg kg F f v us ps hl W M hz ed nb K A ts hu q => ?_⟩
  cases (show ps = [] from ts)
  refine s_begins_nil A K.f1 K.gd fun h1 N => ?_
  refine q (kk + 2) h1 s.got N.stays ?_ (by rw [List.append_nil]; exact A.nw N)
  rw [put_eq M, show ({ s with due := .non, got := s.got } : WS) = s by cases s; cases ed; rfl]
  exact W.nw G N
theorem sub3 {a b c d e : Nat} : ∀ x ∈ [a, b, c], x ∈ [a, b, c, d, e] := by simp +contextual
theorem sub4 {a b c d e : Nat} : ∀ x ∈ [a, b, c, d], x ∈ [a, b, c, d, e] := fun x m => by
  simp only [List.mem_cons, List.not_mem_nil, or_false] at m ⊢
  rcases m with h | h | h | h <;> simp [h]
theorem Mt.at5 {lg kg : Nat} (M : Mt C h s cx st) (S : Stays [C.w, C.wl, C.ml, lg, kg] h h') (nb : s.bd ≠ lg ∧ s.bd ≠ kg) (own : s'.own = s.own) (home : s'.home = s.home) (opn : s'.opn = s.opn) (bd : s'.bd = s.bd) (ms : s'.ms = st1.ms) (cnt : s'.cnt = st1.cnt) (en : s'.ended = .non) : Mt C h' s' cx st1 :=
  ⟨own.trans M.own, home.trans M.home, opn.trans M.opn, by rw [bd]; exact S.at_ _ _ (by simp [M.nb, nb]) M.bd, by rw [bd]; exact M.nb, ms, cnt, en⟩
theorem cons_begin {t : Tm} {ts : List Tm} {g c lg kg F f : Nat} {v : PV} {us : List PV} {ps : List Nat} {kk : Nat} {R : PH → Prop} {X : KX} (G : WG C hg) (W : WK C hg h s) (M : Mt C h s cx st) (hz : s.ws.length + (n + 1) < Cp) (nb : s.bd ≠ lg ∧ s.bd ≠ kg) (K : GCls c F f) (A : GA C hg h g c lg kg F v (ps.map .ref) us) (ts_ : TOs 0 hg (t :: ts) ps)
    (q : ∀ h1 p r, Stays [C.w, C.wl, C.ml, lg, kg] h h1 → WK C hg h1 { s with ws := s.ws ++ [.ref g], due := .ref p } → GA C hg h1 g c lg kg F v (r.map .ref) us → TO 0 hg t p → TOs 0 hg ts r → Mt C h1 { s with ws := s.ws ++ [.ref g], due := .ref p } cx st → R h1) :
    callS sgT (kk + 8) (.fn n_GatherWait_begins) [.ref g, .ref C.w] h (fun _ h'' => R h'') X := by
  obtain ⟨p, r, rfl, to, ts'⟩ := ts_
  refine s_begins_cons (x := .ref p) (ls := r.map .ref) G W A K.f1 (by have : Cp = 1000000 := rfl; omega) fun h1 S1 W1 A1 => ?_
  have S1' := S1.mono (sub4 (e := kg))
  exact q h1 p r S1' W1 A1 to ts' (M.at5 S1' nb rfl rfl rfl rfl M.ms M.cnt M.en)
theorem cons_next {v x : PV} {g c lg kg F f : Nat} {us : List PV} {ps : List Nat} (hl : l[3]? = some (some (.ref C.w))) (G : WG C hg) (W : WK C hg h s) (M : Mt C h s cx st) (ed : s.due = .non) {ws : List PV} (ew : s.ws = ws ++ [.ref g]) (eg : s.got = x) (nb : s.bd ≠ lg ∧ s.bd ≠ kg) (K : GCls c F f) (A : GA C hg h g c lg kg F v (ps.map .ref) us) (hu : us.length < 1000000)
    (q : ∀ h1, Stays [C.w, C.wl, C.ml, lg, kg] h h1 → WK C hg h1 { s with ws := ws } → GA C hg h1 g c lg kg F v (ps.map .ref) (us ++ [x]) → Mt C h1 { s with ws := ws } cx st → callS sgT (k + 2 + 8) (.fn n_GatherWait_begins) [.ref g, .ref C.w] h1 (fun _ h'' => Go (k + 12) l D n h'') (fun x h' => D.ex x l h')) : Go (k + 12) l D (n + 1) h := by
  refine go_pop (k := k + 10) hl G W M.en ed ew A.ob A.nc K.go fun h1 F1 W1 => ?_
  rw [eg]
  have A1 := A.fx W F1
  refine s_gather_go W1 A1 K.f2 K.bg hu fun h2 S2 W2 A2 => ?_
  have S : Stays [C.w, C.wl, C.ml, lg, kg] h h2 := (F1.mono sub3).trans (S2.mono (by simp))
  exact q h2 S W2 A2 (M.at5 S nb rfl rfl rfl rfl M.ms M.cnt M.en)
theorem sp_cons (G : WG C hg) {t : Tm} {ts : List Tm} {v : PV} {vs : List PV} (S1 : Spec C hg n (.tm t) cx st (.val v) st1) (S2 : Spec C hg (n + 1) (.tms ts) cx st1 (.vals vs) st2) : Spec C hg (n + 1) (.tms (t :: ts)) cx st (.vals (v :: vs)) st2 := by
  obtain ⟨j1, S1⟩ := S1
  obtain ⟨j2, S2⟩ := S2
  refine ⟨j2 + 1 + j1, fun k kk l D m h s g c lg kg F f v0 us ps hl W M hz ed nb K A ts_ hu q => ?_⟩
  have hu' : us.length + (ts.length + 1) ≤ 1000 := hu
  refine cons_begin G W M hz nb K A ts_ fun h1 p r T1 W1 A1 to ts' M1 => ?_
  rw [show m + (j2 + 1 + j1) = (m + j2 + 1) + j1 by omega]
  refine S1 k l D (m + j2 + 1) h1 _ p hl W1 M1 (by simp; have : Cp = 1000000 := rfl; omega) rfl to fun h2 F2 W2 => ?_
  have M2 : Mt C h2 (put { s with ws := s.ws ++ [.ref g], due := .ref p } v st1) cx st1 := M1.fx W1 F2 rfl rfl rfl rfl rfl rfl M.en
  refine cons_next hl G W2 M2 rfl rfl rfl nb K (A1.fx W1 F2) (by omega) fun h3 T3 W3 A3 M3 => ?_
  refine S2 k (k + 2) l D m h3 _ g c lg kg F f v0 _ r hl W3 M3 (by show s.ws.length + (n + 1) < Cp; exact hz) rfl nb K A3 ts' (by simp; omega) fun kk' h4 x T4 W4 A4 => ?_
  refine q kk' h4 x (((T1.trans (F2.mono sub3)).trans T3).trans T4) W4 (by rw [List.append_assoc] at A4; exact A4)
theorem sp_consX (G : WG C hg) {t : Tm} {ts : List Tm} {a : PV} (S1 : Spec C hg n (.tm t) cx st (.stop a) st1) : Spec C hg (n + 1) (.tms (t :: ts)) cx st (.stop a) st1 := by
  obtain ⟨j1, S1⟩ := S1
  refine ⟨j1, fun k kk l D m h s g c lg kg F f v0 us ps hl W M hz ed nb K A ts_ hu q => ?_⟩
  refine cons_begin G W M hz nb K A ts_ fun h1 p r T1 W1 A1 to ts' M1 => ?_
  exact S1 k l D m h1 _ p hl W1 M1 (by simp; have : Cp = 1000000 := rfl; omega) rfl to q
theorem sp_consY (G : WG C hg) {t : Tm} {ts : List Tm} {v a : PV} (S1 : Spec C hg n (.tm t) cx st (.val v) st1) (S2 : Spec C hg (n + 1) (.tms ts) cx st1 (.stop a) st2) : Spec C hg (n + 1) (.tms (t :: ts)) cx st (.stop a) st2 := by
  obtain ⟨j1, S1⟩ := S1
  obtain ⟨j2, S2⟩ := S2
  refine ⟨j2 + 1 + j1, fun k kk l D m h s g c lg kg F f v0 us ps hl W M hz ed nb K A ts_ hu q => ?_⟩
  have hu' : us.length + (ts.length + 1) ≤ 1000 := hu
  refine cons_begin G W M hz nb K A ts_ fun h1 p r T1 W1 A1 to ts' M1 => ?_
  rw [show m + (j2 + 1 + j1) = (m + j2 + 1) + j1 by omega]
  refine S1 k l D (m + j2 + 1) h1 _ p hl W1 M1 (by simp; have : Cp = 1000000 := rfl; omega) rfl to fun h2 F2 W2 => ?_
  have M2 : Mt C h2 (put { s with ws := s.ws ++ [.ref g], due := .ref p } v st1) cx st1 := M1.fx W1 F2 rfl rfl rfl rfl rfl rfl M.en
  refine cons_next hl G W2 M2 rfl rfl rfl nb K (A1.fx W1 F2) (by omega) fun h3 T3 W3 A3 M3 => ?_
  exact S2 k (k + 2) l D m h3 _ g c lg kg F f v0 _ r hl W3 M3 (by show s.ws.length + (n + 1) < Cp; exact hz) rfl nb K A3 ts' (by simp; omega) q
/-! ### words -/
theorem sp_dry (G : WG C hg) {y : Hs} {i : Nat} {own : PV} {vs : List PV} (e : st.cnt = C.most) : Spec C hg n (.ent y i own vs) cx st (.stop (.tup [.str "dry"])) st :=
  ⟨0, fun k kk l D m h s va hl W M hz ed ev nv q => s_enter_dry (k := kk + 2) G W (M.cnt.trans e) fun h1 F1 W1 => q h1 _ W1 rfl M.ms M.cnt⟩
theorem sp_deep (G : WG C hg) {y : Hs} {i : Nat} {own : PV} {vs : List PV} (e : st.cnt ≠ C.most) (e2 : cx.opn = 40) : Spec C hg n (.ent y i own vs) cx st (.stop (.tup [.str "deep"])) ⟨st.ms, st.cnt + 1⟩ :=
  ⟨0, fun k kk l D m h s va hl W M hz ed ev nv q => s_enter_deep (k := kk + 2) G W (by rw [M.cnt]; exact e) (M.opn.trans e2) fun h1 F1 W1 => q h1 _ W1 rfl M.ms (by show s.cnt + 1 = _; rw [M.cnt])⟩
theorem sp_go (G : WG C hg) {y : Hs} {i : Nat} {own : PV} {vs : List PV} {wd : Wd} {o : Ou} (e : st.cnt ≠ C.most) (e2 : cx.opn ≠ 40) (my : y ∈ C.hs) (ew : y.ws[i]? = some wd) (hv : vs.length ≤ 900) (S : Spec C hg n (.tm wd.bd) ⟨own, .str y.nm, zipB wd.ps vs, cx.opn + 1⟩ ⟨st.ms, st.cnt + 1⟩ o st1) : Spec C hg (n + 1) (.ent y i own vs) cx st o st1 := by
  have enter : ∀ (k kk : Nat) (l : Loc) (D : En) (mm : Nat) (h : PH) (s : WS) (va : Nat), l[3]? = some (some (.ref C.w)) → WK C hg h s → Mt C h s cx st → s.ws.length + (n + 1) < Cp → h[va]? = some (.lst vs) → (va ≠ C.w ∧ va ≠ C.wl ∧ va ≠ C.ml) →
      (∀ h1 o p s1, Fx C h h1 → WK C hg h1 s1 → s1.ws = s.ws ++ [.ref o] → s1.due = .ref p → TO 0 hg wd.bd p → h1[o]? = some (.ins n_BackWait [(n_bound, .ref s.bd), (n_own, s.own), (n_home, s.home)]) → Mt C h1 s1 ⟨own, .str y.nm, zipB wd.ps vs, cx.opn + 1⟩ ⟨st.ms, st.cnt + 1⟩ → Go (k + 12) l D mm h1) →
      callS sgT (kk + 3) (.fn n_Walk_enter) [.ref C.w, spV (some (y, i)), own, .ref va] h (fun _ h'' => Go (k + 12) l D mm h'') (fun x h' => D.ex x l h') := fun k kk l D mm h s va hl W M hz ev nv q => by
    refine s_enter_go G W (by rw [M.cnt]; exact e) (by rw [M.opn]; exact e2) my ew ev nv hv (by have : Cp = 1000000 := rfl; omega) fun h1 o b2 p F1 W1 to eo nb eb => ?_
    refine q h1 o p _ F1 W1 rfl rfl to eo ⟨rfl, rfl, by show s.opn + 1 = _; rw [M.opn], eb, nb, M.ms, by show s.cnt + 1 = _; rw [M.cnt], M.en⟩
  cases o with
  | vals us => exact (show False from S).elim
  | stop a =>
    obtain ⟨j, S⟩ := S
    refine ⟨j, fun k kk l D m h s va hl W M hz ed ev nv q => enter k kk l D (m + j) h s va hl W M hz ev nv fun h1 o p s1 F1 W1 e1 ed1 to eo M1 => ?_⟩
    exact S k l D m h1 s1 p hl W1 M1 (by rw [e1]; simp; omega) ed1 to q
  | val u =>
    obtain ⟨j, S⟩ := S
    refine ⟨j + 1, fun k kk l D m h s va hl W M hz ed ev nv q => ?_⟩
    rw [show m + (j + 1) = (m + 1) + j by omega]
    refine enter k kk l D (m + 1 + j) h s va hl W M hz ev nv fun h1 o p s1 F1 W1 e1 ed1 to eo M1 => ?_
    refine S k l D (m + 1) h1 s1 p hl W1 M1 (by rw [e1]; simp; omega) ed1 to fun h2 F2 W2 => ?_
    refine go_pop (k := k + 10) (ws := s.ws) hl G W2 M1.en rfl e1 (F2.ins W1 eo (by decide)) (by decide) rfl fun h3 F3 W3 => ?_
    refine s_back_go (k := k + 10) G W3 (Fx.ins (F2.trans F3) W1 eo (by decide)) fun h4 F4 W4 => ?_
    refine q h4 (((F1.trans F2).trans F3).trans F4) ?_
    have es : (put s u st1) = { put s1 u st1 with ws := s.ws, bd := s.bd, own := s.own, home := s.home, opn := (put s1 u st1).opn - 1, got := (put s1 u st1).got } := by
      unfold put
      have q1 : s1.opn - 1 = s.opn := by rw [M1.opn, M.opn]; show cx.opn + 1 - 1 = cx.opn; omega
      have q2 : s1.ended = s.ended := by rw [M1.en, M.en]
      rw [← q1, q2]
    rw [es]
    exact W4
end
end Py

set_option Elab.async false
set_option linter.all false
set_option maxRecDepth 100000
set_option maxHeartbeats 8000000
/-! The walk does what the big steps tell: every kind of term. -/
namespace Py
open PySem
section
variable {C : WC} {hg h h' : PH} {s s' : WS} {k n m : Nat} {l : Loc} {D : En} {cx : Cx} {st st1 st2 st' : Sta} {R : PH → Prop} {X : KX}
theorem put_v {v : PV} (ed : s.due = .non) (e1 : s.ms = st.ms) (e2 : s.cnt = st.cnt) : put s v st = { s with got := v } := by unfold put; rw [← ed, ← e1, ← e2]
theorem put_g {v : PV} {ms : List PV} {cnt : Int} (ed : s.due = .non) (e2 : s.cnt = cnt) : put s v ⟨ms, cnt⟩ = { s with got := v, ms := ms } := by unfold put; rw [← ed, ← e2]
/-! ### gathered -/
theorem sp_new (G : WG C hg) {c : Str} {ts : List Tm} {vs : List PV} (hz : ts.length ≤ 900) (S : Spec C hg n (.tms ts) cx st (.vals vs) st1) (hm : st1.ms.length < 1000000) : Spec C hg n (.tm (.new c ts)) cx st (.val (thV st1.ms.length)) ⟨st1.ms ++ [.tup [.str c, .tup vs]], st1.cnt⟩ :=
  sp_G G (gt_new hz) S fun kk h s g lg kg Q X W e1 e2 e3 e4 A q => s_new_done (k := kk + 4) G W A (by rw [e1]; exact hm) fun h' F W' => q h' F (by rw [e1] at W'; rw [put_g e4 e2]; exact W')
theorem sp_seq (G : WG C hg) {a b : Tm} {x y : PV} (S : Spec C hg n (.tms [a, b]) cx st (.vals [x, y]) st1) : Spec C hg n (.tm (.two ";" a b)) cx st (.val y) st1 :=
  sp_G G gt_two S fun kk h s g lg kg Q X W e1 e2 e3 e4 A q => s_two_seq (k := kk + 4) G W A fun h' F W' => q h' F (by rw [put_v e4 e1 e2]; exact W')
theorem sp_same (G : WG C hg) {a b : Tm} {x y : PV} (S : Spec C hg n (.tms [a, b]) cx st (.vals [x, y]) st1) (ox : okV x = true) (oy : okV y = true) : Spec C hg n (.tm (.two "=" a b)) cx st (.val (.bl (PyData.eqv (dat x) (dat y)))) st1 :=
  sp_G G gt_two S fun kk h s g lg kg Q X W e1 e2 e3 e4 A q => s_two_same (k := kk + 4) G W A ox oy fun h' F W' => q h' F (by rw [put_v e4 e1 e2]; exact W')
theorem sp_two (G : WG C hg) {w : String} {a b : Tm} {x y : Int} (hw : sgn w) (S : Spec C hg n (.tms [a, b]) cx st (.vals [.int x, .int y]) st1) (hx : small x) (hy : small y) (ht : (tw w x y).2 = true) : Spec C hg n (.tm (.two (Str.ofString w) a b)) cx st (.val (tw w x y).1) st1 :=
  sp_G G gt_two S fun kk h s g lg kg Q X W e1 e2 e3 e4 A q => s_two_num (k := kk + 2) G W A hw hx hy fun h' F W' => q h' F (by rw [ht, if_pos rfl] at W'; rw [put_v e4 e1 e2]; exact W')
theorem sp_twoR (G : WG C hg) {w : String} {a b : Tm} {x y : Int} (hw : sgn w) (S : Spec C hg n (.tms [a, b]) cx st (.vals [.int x, .int y]) st1) (hx : small x) (hy : small y) (ht : (tw w x y).2 = false) : Spec C hg n (.tm (.two (Str.ofString w) a b)) cx st (.stop (.tup [.str "refused", (tw w x y).1])) st1 :=
  sp_GR G gt_two S fun kk h s g lg kg Q X W e1 e2 e3 e4 A q => s_two_num (k := kk + 2) G W A hw hx hy fun h' F W' => q h' _ W' (by show (if (tw w x y).2 = true then s.ended else _) = _; rw [ht, if_neg Bool.false_ne_true]) e1 e2
theorem sp_sett (G : WG C hg) {m i : Nat} {t b : Tm} {f : Str} {y : Hs} {es : List Hs} {held : List PV} {v : PV} (S : Spec C hg n (.tms [t, b]) cx st (.vals [thV m, v]) st1) (em : st1.ms[m]? = some (.tup [.str y.nm, .tup held])) (c : Ch C.hs y es) (hz : es.length ≤ 900) (hf : (flds (y :: es)).length ≤ 900) (ep : plc f (flds (y :: es)) = some i) (il : i < held.length) (hh : held.length ≤ 900) : Spec C hg n (.tm (.sett t f b)) cx st (.val v) ⟨st1.ms.set m (.tup [.str y.nm, .tup (held.set i v)]), st1.cnt⟩ :=
  sp_G G gt_set S fun kk h s g lg kg Q X W e1 e2 e3 e4 A q => s_set_done (k := kk + 1) G W A (by rw [e1]; exact em) c hz hf ep il hh fun h' F W' => q h' F (by rw [e1] at W'; rw [put_g e4 e2]; exact W')
/-- gathered, and a word is entered -/
theorem sp_GE (G : WG C hg) {t : Tm} {c F f i : Nat} {v0 own : PV} {vs us : List PV} {y : Hs} {o : Ou} (T : GTm t c F f v0) (S : Spec C hg n (.tms (parts t)) cx st (.vals vs) st1) (E : Spec C hg n (.ent y i own us) cx st1 o st2)
    (fin : ∀ (kk : Nat) (h : PH) (s : WS) (g lg kg : Nat) (R : PH → Prop) (X : KX), WK C hg h s → s.ms = st1.ms → s.own = cx.own → s.home = cx.home → GA C hg h g c lg kg F v0 [] vs →
      (∀ h' va, Gr h h' → h'[va]? = some (.lst us) → (va ≠ C.w ∧ va ≠ C.wl ∧ va ≠ C.ml) → callS sgT (kk + 1 + 3) (.fn n_Walk_enter) [.ref C.w, spV (some (y, i)), own, .ref va] h' (fun _ h'' => R h'') X) → callS sgT (kk + 5) (.fn f) [.ref g, .ref C.w] h (fun _ h'' => R h'') X) : Spec C hg n (.tm t) cx st o st2 := by
  obtain ⟨j1, S⟩ := S
  cases o with
  | vals us => exact (show False from E).elim
  | stop a =>
    obtain ⟨j2, E⟩ := E
    refine ⟨j2 + j1 + 1, fun k l D m h s p hl W M hz ed to c => ?_⟩
    rw [show m + (j2 + j1 + 1) = (m + j2) + j1 + 1 by omega]
    refine go_T (n := (m + j2) + j1) T hl G W M ed to fun h1 g lg kg ps F1 ll W1 A ts => ?_
    refine S k (k + 1) l D (m + j2) h1 { s with due := .non } g _ lg kg _ _ v0 [] ps hl W1 (M.fx W F1 rfl rfl rfl rfl M.ms M.cnt M.en) hz rfl (by have := lt_of M.bd; exact ⟨by show s.bd ≠ lg; omega, by show s.bd ≠ kg; omega⟩) T.K A ts (by have := T.len; simp; omega) fun kk h2 x S2 W2 A2 => ?_
    refine fin kk h2 _ g lg kg _ _ W2 rfl M.own M.home A2 fun h3 va g3 ev nv => ?_
    exact E k (kk + 1) l D m h3 _ va hl (W2.fx G g3) (M.fx W (Stays.trans (F1.out S2 ll) g3.stays) rfl rfl rfl rfl rfl rfl M.en) hz rfl ev nv c
  | val u =>
    obtain ⟨j2, E⟩ := E
    refine ⟨j2 + j1 + 1, fun k l D m h s p hl W M hz ed to c => ?_⟩
    rw [show m + (j2 + j1 + 1) = (m + j2) + j1 + 1 by omega]
    refine go_T (n := (m + j2) + j1) T hl G W M ed to fun h1 g lg kg ps F1 ll W1 A ts => ?_
    refine S k (k + 1) l D (m + j2) h1 { s with due := .non } g _ lg kg _ _ v0 [] ps hl W1 (M.fx W F1 rfl rfl rfl rfl M.ms M.cnt M.en) hz rfl (by have := lt_of M.bd; exact ⟨by show s.bd ≠ lg; omega, by show s.bd ≠ kg; omega⟩) T.K A ts (by have := T.len; simp; omega) fun kk h2 x S2 W2 A2 => ?_
    refine fin kk h2 _ g lg kg _ _ W2 rfl M.own M.home A2 fun h3 va g3 ev nv => ?_
    exact E k (kk + 1) l D m h3 _ va hl (W2.fx G g3) (M.fx W (Stays.trans (F1.out S2 ll) g3.stays) rfl rfl rfl rfl rfl rfl M.en) hz rfl ev nv fun h4 F4 W4 => c h4 ((Stays.trans (F1.out S2 ll) g3.stays).trans F4) W4
theorem sp_cal (G : WG C hg) {m i : Nat} {t : Tm} {w : Str} {ts : List Tm} {vs : List PV} {held : PV} {y z : Hs} {es : List Hs} {o : Ou} (hz : ts.length ≤ 899) (S : Spec C hg n (.tms (t :: ts)) cx st (.vals (thV m :: vs)) st1) (em : st1.ms[m]? = some (.tup [.str y.nm, held])) (ch : Ch C.hs y es) (he : es.length ≤ 900) (ef : fnd w (y :: es) = some (z, i)) (E : Spec C hg n (.ent z i (thV m) vs) cx st1 o st2) : Spec C hg n (.tm (.cal t w ts)) cx st o st2 :=
  sp_GE G (gt_cal hz) S E fun kk h s g lg kg R X W e1 _ _ A q => s_call_done (k := kk + 1) G W A (by rw [e1]; exact em) ch he ef fun h' va g ev hl => q h' va g ev (W.fresh hl)
theorem sp_eld (G : WG C hg) {i : Nat} {w : Str} {ts : List Tm} {vs : List PV} {x e z : Hs} {es : List Hs} {o : Ou} (hz : ts.length ≤ 900) (S : Spec C hg n (.tms ts) cx st (.vals vs) st1) (eh : cx.home = .str x.nm) (ch : Ch C.hs x (e :: es)) (he : es.length ≤ 899) (ef : fnd w (e :: es) = some (z, i)) (E : Spec C hg n (.ent z i cx.own vs) cx st1 o st2) : Spec C hg n (.tm (.eld w ts)) cx st o st2 :=
  sp_GE G (gt_eld hz) S E fun kk h s g lg kg R X W e1 e2 e3 A q => s_elder_done (k := kk + 1) G W A (by rw [e3]; exact eh) ch he ef fun h' g => by rw [e2]; exact q h' kg g (g.get A.ek) A.nk.2
/-! ### one that waits for one value -/
theorem s_at_field {p p1 : Nat} {f : Str} (G : WG C hg) (W : WK C hg h s) (hw : s.ws.length < 1000000) (hd : Hd 0 hg n_FieldTerm p [p1] [(n_thing, .ref p1), (n_called, .str f)]) (q : ∀ h' g, Fx C h h' → WK C hg h' { s with ws := s.ws ++ [.ref g], due := .ref p1 } → h'[g]? = some (.ins n_FieldWait [(n_called, .str f)]) → R h') : callS sgT (k + 3) (.fn n_Walk_at_field) [.ref C.w, .ref p] h (fun _ h'' => R h'') X := by
  obtain ⟨il, i, j, e, el, _⟩ := hd_at G W hd
  refine xFn (d := d_Walk_at_field) rfl rfl ?_
  refine put_wait (i := 0) G W rfl hw (xMk (a1 (xAtV (i := 1) rfl e rfl rfl (s_mk1 (f := n_called) rfl rfl rfl fun h1 g1 e1 => ⟨g1, fun h2 F2 W2 => ?_⟩))))
  have e2 := F2.ins (W.fx G g1) e1 (by decide)
  have F2' : Fx C h h2 := Stays.trans g1.stays F2
  refine set_due (i := 0) G W2 rfl (fun R r => xAtV (i := 1) rfl (Fx.ins F2' W e (by decide)) rfl rfl r) fun h3 F3 W3 => sEnd ?_
  exact q h3 h.length (F2'.trans F3) W3 (F3.ins W2 e2 (by decide))
theorem s_at_not {p p1 : Nat} (G : WG C hg) (W : WK C hg h s) (hw : s.ws.length < 1000000) (hd : Hd 0 hg n_NotTerm p [p1] [(n_one, .ref p1)]) (q : ∀ h' g, Fx C h h' → WK C hg h' { s with ws := s.ws ++ [.ref g], due := .ref p1 } → h'[g]? = some (.ins n_NotWait []) → R h') : callS sgT (k + 3) (.fn n_Walk_at_not) [.ref C.w, .ref p] h (fun _ h'' => R h'') X := by
  obtain ⟨il, i, j, e, el, _⟩ := hd_at G W hd
  refine xFn (d := d_Walk_at_not) rfl rfl ?_
  refine put_wait (i := 0) G W rfl hw (xMk0 rfl rfl fun h1 N1 => ⟨N1.gr, fun h2 F2 W2 => ?_⟩)
  have e2 := F2.ins (W.nw G N1) N1.at_ (by decide)
  have F2' : Fx C h h2 := Stays.trans N1.stays F2
  refine set_due (i := 0) G W2 rfl (fun R r => xAtV (i := 1) rfl (Fx.ins F2' W e (by decide)) rfl rfl r) fun h3 F3 W3 => sEnd ?_
  exact q h3 h.length (F2'.trans F3) W3 (F3.ins W2 e2 (by decide))
theorem s_at_if {p p1 p2 p3 : Nat} (G : WG C hg) (W : WK C hg h s) (hw : s.ws.length < 1000000) (hd : Hd 0 hg n_IfTerm p [p1, p2, p3] [(n_one, .ref p1), (n_other, .ref p2), (n_third, .ref p3)]) (q : ∀ h' g, Fx C h h' → WK C hg h' { s with ws := s.ws ++ [.ref g], due := .ref p1 } → h'[g]? = some (.ins n_IfWait [(n_other, .ref p2), (n_third, .ref p3)]) → R h') : callS sgT (k + 3) (.fn n_Walk_at_if) [.ref C.w, .ref p] h (fun _ h'' => R h'') X := by
  obtain ⟨il, i, j, e, el, _⟩ := hd_at G W hd
  refine xFn (d := d_Walk_at_if) rfl rfl ?_
  refine put_wait (i := 0) G W rfl hw (xMk (aC (xAtV (i := 1) rfl e rfl rfl (a1 (xAtV (i := 1) rfl e rfl rfl (s_mk2 (f1 := n_other) (f2 := n_third) rfl rfl rfl rfl (by decide) fun h1 g1 e1 => ⟨g1, fun h2 F2 W2 => ?_⟩))))))
  have e2 := F2.ins (W.fx G g1) e1 (by decide)
  have F2' : Fx C h h2 := Stays.trans g1.stays F2
  refine set_due (i := 0) G W2 rfl (fun R r => xAtV (i := 1) rfl (Fx.ins F2' W e (by decide)) rfl rfl r) fun h3 F3 W3 => sEnd ?_
  exact q h3 h.length (F2'.trans F3) W3 (F3.ins W2 e2 (by decide))
theorem s_at_let {p p1 p2 : Nat} {x : Str} (G : WG C hg) (W : WK C hg h s) (hw : s.ws.length < 1000000) (hd : Hd 0 hg n_LetTerm p [p1, p2] [(n_called, .str x), (n_one, .ref p1), (n_other, .ref p2)]) (q : ∀ h' g, Fx C h h' → WK C hg h' { s with ws := s.ws ++ [.ref g], due := .ref p1 } → h'[g]? = some (.ins n_LetWait [(n_called, .str x), (n_other, .ref p2)]) → R h') : callS sgT (k + 3) (.fn n_Walk_at_let) [.ref C.w, .ref p] h (fun _ h'' => R h'') X := by
  obtain ⟨il, i, j, e, el, _⟩ := hd_at G W hd
  refine xFn (d := d_Walk_at_let) rfl rfl ?_
  refine put_wait (i := 0) G W rfl hw (xMk (aC (xAtV (i := 1) rfl e rfl rfl (a1 (xAtV (i := 1) rfl e rfl rfl (s_mk2 (f1 := n_called) (f2 := n_other) rfl rfl rfl rfl (by decide) fun h1 g1 e1 => ⟨g1, fun h2 F2 W2 => ?_⟩))))))
  have e2 := F2.ins (W.fx G g1) e1 (by decide)
  have F2' : Fx C h h2 := Stays.trans g1.stays F2
  refine set_due (i := 0) G W2 rfl (fun R r => xAtV (i := 1) rfl (Fx.ins F2' W e (by decide)) rfl rfl r) fun h3 F3 W3 => sEnd ?_
  exact q h3 h.length (F2'.trans F3) W3 (F3.ins W2 e2 (by decide))
/-- its one part is walked first -/
abbrev One (C : WC) (hg : PH) (n : Nat) (t : Tm) (cx : Cx) (st : Sta) (cw : Nat) (fs : Nat → Nat → List (Nat × PV)) (tp : Nat → Nat → Nat → Nat → Prop) (u : Tm) : Prop :=
  ∀ (k : Nat) (l : Loc) (D : En) (m : Nat) (h : PH) (s : WS) (p : Nat), l[3]? = some (some (.ref C.w)) → WK C hg h s → Mt C h s cx st → s.ws.length + (n + 1) < Cp → s.due = .ref p → TO 0 hg t p →
    (∀ h' g p1 p2 p3, Fx C h h' → WK C hg h' { s with ws := s.ws ++ [.ref g], due := .ref p1 } → h'[g]? = some (.ins cw (fs p2 p3)) → TO 0 hg u p1 → tp p p1 p2 p3 → Mt C h' { s with ws := s.ws ++ [.ref g], due := .ref p1 } cx st → Go (k + 12) l D m h') → Go (k + 12) l D (m + 1) h
theorem one_fld (G : WG C hg) {t : Tm} {f : Str} : One C hg n (.fld t f) cx st n_FieldWait (fun _ _ => [(n_called, .str f)]) (fun _ _ _ _ => True) t := fun k l D m h s p hl W M hz ed to q => by
  obtain ⟨p1, hd, to1⟩ := to
  obtain ⟨il, i, j, e, _, _⟩ := hd_at G W hd
  refine go_at hl G W M.en ed e (by decide) rfl rfl rfl fun h1 F1 W1 => s_at_field (k := k + 7) G W1 (by show s.ws.length < _; have : Cp = 1000000 := rfl; omega) hd fun h2 g F2 W2 eg => ?_
  exact q h2 g p1 0 0 (F1.trans F2) W2 eg to1 trivial (M.fx W (F1.trans F2) rfl rfl rfl rfl M.ms M.cnt M.en)
theorem one_nt (G : WG C hg) {t : Tm} : One C hg n (.nt t) cx st n_NotWait (fun _ _ => []) (fun _ _ _ _ => True) t := fun k l D m h s p hl W M hz ed to q => by
  obtain ⟨p1, hd, to1⟩ := to
  obtain ⟨il, i, j, e, _, _⟩ := hd_at G W hd
  refine go_at hl G W M.en ed e (by decide) rfl rfl rfl fun h1 F1 W1 => s_at_not (k := k + 7) G W1 (by show s.ws.length < _; have : Cp = 1000000 := rfl; omega) hd fun h2 g F2 W2 eg => ?_
  exact q h2 g p1 0 0 (F1.trans F2) W2 eg to1 trivial (M.fx W (F1.trans F2) rfl rfl rfl rfl M.ms M.cnt M.en)
theorem one_ite (G : WG C hg) {t b c : Tm} : One C hg n (.ite t b c) cx st n_IfWait (fun p2 p3 => [(n_other, .ref p2), (n_third, .ref p3)]) (fun _ _ p2 p3 => TO 0 hg b p2 ∧ TO 0 hg c p3) t := fun k l D m h s p hl W M hz ed to q => by
  obtain ⟨p1, p2, p3, hd, to1, to2, to3⟩ := to
  obtain ⟨il, i, j, e, _, _⟩ := hd_at G W hd
  refine go_at hl G W M.en ed e (by decide) rfl rfl rfl fun h1 F1 W1 => s_at_if (k := k + 7) G W1 (by show s.ws.length < _; have : Cp = 1000000 := rfl; omega) hd fun h2 g F2 W2 eg => ?_
  exact q h2 g p1 p2 p3 (F1.trans F2) W2 eg to1 ⟨to2, to3⟩ (M.fx W (F1.trans F2) rfl rfl rfl rfl M.ms M.cnt M.en)
theorem one_let (G : WG C hg) {t b : Tm} {x : Str} : One C hg n (.lett x t b) cx st n_LetWait (fun p2 _ => [(n_called, .str x), (n_other, .ref p2)]) (fun _ _ p2 _ => TO 0 hg b p2) t := fun k l D m h s p hl W M hz ed to q => by
  obtain ⟨p1, p2, hd, to1, to2⟩ := to
  obtain ⟨il, i, j, e, _, _⟩ := hd_at G W hd
  refine go_at hl G W M.en ed e (by decide) rfl rfl rfl fun h1 F1 W1 => s_at_let (k := k + 7) G W1 (by show s.ws.length < _; have : Cp = 1000000 := rfl; omega) hd fun h2 g F2 W2 eg => ?_
  exact q h2 g p1 p2 0 (F1.trans F2) W2 eg to1 to2 (M.fx W (F1.trans F2) rfl rfl rfl rfl M.ms M.cnt M.en)
/-- over in its one part -/
theorem sp_oneX {t u : Tm} {cw : Nat} {fs : Nat → Nat → List (Nat × PV)} {tp : Nat → Nat → Nat → Nat → Prop} {a : PV} (O : One C hg n t cx st cw fs tp u) (S : Spec C hg n (.tm u) cx st (.stop a) st1) : Spec C hg (n + 1) (.tm t) cx st (.stop a) st1 := by
  obtain ⟨j, S⟩ := S
  refine ⟨j + 1, fun k l D m h s p hl W M hz ed to c => ?_⟩
  refine O k l D (m + j) h s p hl W M hz ed to fun h2 g p1 p2 p3 F2 W2 eg to1 _ M2 => ?_
  exact S k l D m h2 _ p1 hl W2 M2 (by simp; have : Cp = 1000000 := rfl; omega) rfl to1 c
theorem sp_fld (G : WG C hg) {m i : Nat} {t : Tm} {f : Str} {y : Hs} {es : List Hs} {held : List PV} {v : PV} (S : Spec C hg n (.tm t) cx st (.val (thV m)) st1) (em : st1.ms[m]? = some (.tup [.str y.nm, .tup held])) (ch : Ch C.hs y es) (he : es.length ≤ 900) (hf : (flds (y :: es)).length ≤ 900) (ep : plc f (flds (y :: es)) = some i) (ev : held[i]? = some v) : Spec C hg (n + 1) (.tm (.fld t f)) cx st (.val v) st1 := by
  obtain ⟨j, S⟩ := S
  refine ⟨j + 2, fun k l D mm h s p hl W M hz ed to c => ?_⟩
  rw [show mm + (j + 2) = ((mm + 1) + j) + 1 by omega]
  refine one_fld G k l D (mm + 1 + j) h s p hl W M hz ed to fun h2 g p1 p2 p3 F2 W2 eg to1 _ M2 => ?_
  refine S k l D (mm + 1) h2 _ p1 hl W2 M2 (by simp; have : Cp = 1000000 := rfl; omega) rfl to1 fun h3 F3 W3 => ?_
  refine go_pop (k := k + 10) (ws := s.ws) hl G W3 M.en rfl rfl (F3.ins W2 eg (by decide)) (by decide) rfl fun h4 F4 W4 => ?_
  refine s_field_go (k := k + 7) G W4 (Fx.ins (F3.trans F4) W2 eg (by decide)) em ch he hf ep ev fun h5 F5 W5 => ?_
  exact c h5 (((F2.trans F3).trans F4).trans F5) W5
theorem sp_nt (G : WG C hg) {t : Tm} {b : Bool} (S : Spec C hg n (.tm t) cx st (.val (.bl b)) st1) : Spec C hg (n + 1) (.tm (.nt t)) cx st (.val (.bl !b)) st1 := by
  obtain ⟨j, S⟩ := S
  refine ⟨j + 2, fun k l D mm h s p hl W M hz ed to c => ?_⟩
  rw [show mm + (j + 2) = ((mm + 1) + j) + 1 by omega]
  refine one_nt G k l D (mm + 1 + j) h s p hl W M hz ed to fun h2 g p1 p2 p3 F2 W2 eg to1 _ M2 => ?_
  refine S k l D (mm + 1) h2 _ p1 hl W2 M2 (by simp; have : Cp = 1000000 := rfl; omega) rfl to1 fun h3 F3 W3 => ?_
  refine go_pop (k := k + 10) (ws := s.ws) hl G W3 M.en rfl rfl (F3.ins W2 eg (by decide)) (by decide) rfl fun h4 F4 W4 => ?_
  refine s_not_go (k := k + 10) G W4 fun h5 F5 W5 => ?_
  exact c h5 (((F2.trans F3).trans F4).trans F5) W5
theorem sp_ite (G : WG C hg) {a b c : Tm} {r : Bool} {o : Ou} (S : Spec C hg n (.tm a) cx st (.val (.bl r)) st1) (E : Spec C hg (n + 1) (.tm (if r then b else c)) cx st1 o st2) : Spec C hg (n + 1) (.tm (.ite a b c)) cx st o st2 := by
  obtain ⟨j1, S⟩ := S
  have run : ∀ (k : Nat) (l : Loc) (D : En) (mm : Nat) (h : PH) (s : WS) (p : Nat), l[3]? = some (some (.ref C.w)) → WK C hg h s → Mt C h s cx st → s.ws.length + (n + 1) < Cp → s.due = .ref p → TO 0 hg (.ite a b c) p →
      (∀ h1 s1 p1, Fx C h h1 → WK C hg h1 s1 → Mt C h1 s1 cx st1 → s1.ws = s.ws → s1.due = .ref p1 → TO 0 hg (if r then b else c) p1 → (∀ v st, put s1 v st = put s v st) → Go (k + 12) l D mm h1) → Go (k + 12) l D (mm + 1 + j1 + 1) h := fun k l D mm h s p hl W M hz ed to q => by
    refine one_ite G k l D (mm + 1 + j1) h s p hl W M hz ed to fun h2 g p1 p2 p3 F2 W2 eg to1 tp M2 => ?_
    refine S k l D (mm + 1) h2 _ p1 hl W2 M2 (by simp; have : Cp = 1000000 := rfl; omega) rfl to1 fun h3 F3 W3 => ?_
    refine go_pop (k := k + 10) (ws := s.ws) hl G W3 M.en rfl rfl (F3.ins W2 eg (by decide)) (by decide) rfl fun h4 F4 W4 => ?_
    refine s_if_go (k := k + 10) G W4 (Fx.ins (F3.trans F4) W2 eg (by decide)) fun h5 F5 W5 => ?_
    have F := ((F2.trans F3).trans F4).trans F5
    refine q h5 _ (if r then p2 else p3) F W5 (M.fx W F rfl rfl rfl rfl rfl rfl M.en) rfl (by cases r <;> rfl) (by cases r with | true => exact tp.1 | false => exact tp.2) fun v st => rfl
  cases o with
  | vals us => exact (show False from E).elim
  | stop x =>
    obtain ⟨j2, E⟩ := E
    refine ⟨j2 + 2 + j1, fun k l D mm h s p hl W M hz ed to q => ?_⟩
    rw [show mm + (j2 + 2 + j1) = (mm + j2) + 1 + j1 + 1 by omega]
    exact run k l D (mm + j2) h s p hl W M hz ed to fun h1 s1 p1 F1 W1 M1 ew ed1 to1 ep => E k l D mm h1 s1 p1 hl W1 M1 (by rw [ew]; exact hz) ed1 to1 q
  | val u =>
    obtain ⟨j2, E⟩ := E
    refine ⟨j2 + 2 + j1, fun k l D mm h s p hl W M hz ed to q => ?_⟩
    rw [show mm + (j2 + 2 + j1) = (mm + j2) + 1 + j1 + 1 by omega]
    exact run k l D (mm + j2) h s p hl W M hz ed to fun h1 s1 p1 F1 W1 M1 ew ed1 to1 ep => E k l D mm h1 s1 p1 hl W1 M1 (by rw [ew]; exact hz) ed1 to1 fun h2 F2 W2 => q h2 (F1.trans F2) (by rw [← ep]; exact W2)
theorem sp_lett (G : WG C hg) {x : Str} {a b : Tm} {v : PV} {o : Ou} (S : Spec C hg n (.tm a) cx st (.val v) st1) (hb : cx.bd.length < 1000000) (E : Spec C hg n (.tm b) ⟨cx.own, cx.home, cx.bd ++ [(x, v)], cx.opn⟩ st1 o st2) : Spec C hg (n + 1) (.tm (.lett x a b)) cx st o st2 := by
  obtain ⟨j1, S⟩ := S
  have run : ∀ (k : Nat) (l : Loc) (D : En) (mm : Nat) (h : PH) (s : WS) (p : Nat), l[3]? = some (some (.ref C.w)) → WK C hg h s → Mt C h s cx st → s.ws.length + (n + 1) < Cp → s.due = .ref p → TO 0 hg (.lett x a b) p →
      (∀ h1 o b2 s1 p1, Fx C h h1 → WK C hg h1 s1 → Mt C h1 s1 ⟨cx.own, cx.home, cx.bd ++ [(x, v)], cx.opn⟩ st1 → s1 = { put s v st1 with ws := s.ws ++ [.ref o], bd := b2, due := .ref p1 } → h1[o]? = some (.ins n_LooseWait [(n_bound, .ref s.bd)]) → TO 0 hg b p1 → Go (k + 12) l D mm h1) → Go (k + 12) l D (mm + 1 + j1 + 1) h := fun k l D mm h s p hl W M hz ed to q => by
    refine one_let G k l D (mm + 1 + j1) h s p hl W M hz ed to fun h2 g p1 p2 p3 F2 W2 eg to1 tp M2 => ?_
    refine S k l D (mm + 1) h2 _ p1 hl W2 M2 (by simp; have : Cp = 1000000 := rfl; omega) rfl to1 fun h3 F3 W3 => ?_
    refine go_pop (k := k + 10) (ws := s.ws) hl G W3 M.en rfl rfl (F3.ins W2 eg (by decide)) (by decide) rfl fun h4 F4 W4 => ?_
    have F := (F2.trans F3).trans F4
    refine s_let_go (k := k + 8) (bd := cx.bd) G W4 (Fx.ins (F3.trans F4) W2 eg (by decide)) (Fx.keep F W M.bd M.nb.1 M.nb.2.1 M.nb.2.2) M.nb (by show s.ws.length < _; have : Cp = 1000000 := rfl; omega) hb fun h5 o b2 F5 W5 eo nb eb => ?_
    exact q h5 o b2 _ p2 (F.trans F5) W5 ⟨M.own, M.home, M.opn, eb, nb, rfl, rfl, M.en⟩ rfl eo tp
  cases o with
  | vals us => exact (show False from E).elim
  | stop y =>
    obtain ⟨j2, E⟩ := E
    refine ⟨j2 + 2 + j1, fun k l D mm h s p hl W M hz ed to q => ?_⟩
    rw [show mm + (j2 + 2 + j1) = (mm + j2) + 1 + j1 + 1 by omega]
    refine run k l D (mm + j2) h s p hl W M hz ed to fun h1 o b2 s1 p1 F1 W1 M1 es eo to1 => ?_
    exact E k l D mm h1 s1 p1 hl W1 M1 (by rw [es]; simp; have : Cp = 1000000 := rfl; omega) (by rw [es]) to1 q
  | val u =>
    obtain ⟨j2, E⟩ := E
    refine ⟨j2 + 3 + j1, fun k l D mm h s p hl W M hz ed to q => ?_⟩
    rw [show mm + (j2 + 3 + j1) = (mm + 1 + j2) + 1 + j1 + 1 by omega]
    refine run k l D (mm + 1 + j2) h s p hl W M hz ed to fun h1 o b2 s1 p1 F1 W1 M1 es eo to1 => ?_
    subst es
    refine E k l D (mm + 1) h1 _ p1 hl W1 M1 (by simp; have : Cp = 1000000 := rfl; omega) rfl to1 fun h2 F2 W2 => ?_
    refine go_pop (k := k + 10) (ws := s.ws) hl G W2 M.en rfl rfl (F2.ins W1 eo (by decide)) (by decide) rfl fun h3 F3 W3 => ?_
    refine s_loose_go (k := k + 10) G W3 (Fx.ins (F2.trans F3) W1 eo (by decide)) fun h4 F4 W4 => ?_
    exact q h4 (((F1.trans F2).trans F3).trans F4) W4
end
/-- the walk does what the big steps tell -/
theorem ev_spec {C : WC} {hg : PH} (G : WG C hg) {n : Nat} {job : Jb} {cx : Cx} {st st' : Sta} {o : Ou} (e : Ev C n job cx st o st') : Spec C hg n job cx st o st' := by
  induction e with
  | num => exact sp_num G
  | tru => exact sp_tru G
  | nam ev => exact sp_nam G ev
  | slf => exact sp_slf G
  | new hz _ hm i => exact sp_new G hz i hm
  | newX hz _ i => exact sp_GX G (gt_new hz) i
  | cal hz _ em ch he ef _ i1 i2 => exact sp_cal G hz i1 em ch he ef i2
  | calX hz _ i => exact sp_GX G (gt_cal hz) i
  | eld hz _ eh ch he ef _ i1 i2 => exact sp_eld G hz i1 eh ch he ef i2
  | eldX hz _ i => exact sp_GX G (gt_eld hz) i
  | fld _ em ch he hf ep ev i => exact sp_fld G i em ch he hf ep ev
  | fldX _ i => exact sp_oneX (one_fld G) i
  | nt _ i => exact sp_nt G i
  | ntX _ i => exact sp_oneX (one_nt G) i
  | seq _ i => exact sp_seq G i
  | same _ ox oy i => exact sp_same G i ox oy
  | two hw _ hx hy ht i => exact sp_two G hw i hx hy ht
  | twoR hw _ hx hy ht i => exact sp_twoR G hw i hx hy ht
  | twoX _ i => exact sp_GX G gt_two i
  | ite _ _ i1 i2 => exact sp_ite G i1 i2
  | iteX _ i => exact sp_oneX (one_ite G) i
  | lett _ hb _ i1 i2 => exact sp_lett G i1 hb i2
  | letX _ i => exact sp_oneX (one_let G) i
  | sett _ em ch hz hf ep il hh i => exact sp_sett G i em ch hz hf ep il hh
  | setX _ i => exact sp_GX G gt_set i
  | nil => exact sp_nil G
  | cons _ _ i1 i2 => exact sp_cons G i1 i2
  | consX _ i => exact sp_consX G i
  | consY _ _ i1 i2 => exact sp_consY G i1 i2
  | dry e => exact sp_dry G e
  | deep e e2 => exact sp_deep G e e2
  | go e e2 my ew hv _ i => exact sp_go G e e2 my ew hv i
end Py

set_option Elab.async false
set_option linter.all false
set_option maxRecDepth 100000
set_option maxHeartbeats 8000000
/-! A walk from its beginning to its end. -/
namespace Py
open PySem
/-- what is told of the last value -/
inductive Last (ms : List PV) : PV → PV → Prop
  | int {i : Int} : Last ms (.int i) (.tup [.str "value", .int i])
  | bl {i : Bool} : Last ms (.bl i) (.tup [.str "value", .bl i])
  | th {m : Nat} {x : PV} {r : List PV} : ms[m]? = some (.tup (x :: r)) → Last ms (thV m) (.tup [.str "thing", x])
theorem Last.nn {ms : List PV} {v e : PV} (L : Last ms v e) : isNonB e = false := by cases L <;> rfl
/-- pairs of a told house: its name, its words -/
def kvOf : PV → PV × PV
  | .tup [a, _, _, d] => (a, d)
  | v => (v, v)
theorem HT.keys {n : Nat} {h : PH} : ∀ {xs : List Hs} {vs : List PV}, HT n h xs vs → ((vs.map kvOf).all fun p => isK p.1) = true
  | [], vs, a => by cases (show vs = [] from a); rfl
  | x :: xs, vs, a => by obtain ⟨wl, tv, r, rfl, b, c, d⟩ := a; simp only [List.map_cons, List.all_cons, HT.keys d, Bool.and_true]; rfl
theorem HT.other {n : Nat} {h : PH} {b : Str} : ∀ {xs : List Hs} {vs : List PV} (kvs : List (PV × PV)), HT n h xs vs → (∀ x ∈ xs, x.nm ≠ b) → lookD (.str b) (mergeP kvs (vs.map kvOf)) = lookD (.str b) kvs
  | [], vs, kvs, a, nb => by cases (show vs = [] from a); rfl
  | x :: xs, vs, kvs, a, nb => by
    obtain ⟨wl, tv, r, rfl, _, c, d⟩ := a
    show lookD (.str b) (mergeP (putD (.str x.nm) (.ref wl) kvs) (r.map kvOf)) = _
    rw [HT.other _ d fun y m => nb y (List.mem_cons_of_mem _ m), look_put, if_neg (nb x List.mem_cons_self)]
theorem HT.look {n : Nat} {h : PH} : ∀ {xs : List Hs} {vs : List PV} (kvs : List (PV × PV)), HT n h xs vs → (xs.map (·.nm)).Nodup → ∀ x ∈ xs, ∃ a tv, lookD (.str x.nm) (mergeP kvs (vs.map kvOf)) = some (.ref a) ∧ h[a]? = some (.lst tv) ∧ WT n h x.ws tv
  | [], vs, kvs, a, nd, x, m => by cases m
  | y :: xs, vs, kvs, a, nd, x, m => by
    obtain ⟨wl, tv, r, rfl, b, c, d⟩ := a
    rw [List.map_cons, List.nodup_cons] at nd
    show ∃ a tv, lookD (.str x.nm) (mergeP (putD (.str y.nm) (.ref wl) kvs) (r.map kvOf)) = some (.ref a) ∧ _
    rcases List.mem_cons.mp m with rfl | m
    · refine ⟨wl, tv, ?_, b.2, c⟩
      rw [HT.other _ d fun z mz e => nd.1 (by rw [← e]; exact List.mem_map_of_mem mz), look_put, if_pos rfl]
    · exact HT.look _ d nd.2 x m
theorem Prg.gr {n p : Nat} {h h' : PH} {hs : List Hs} {mp : List (Str × Str)} {mk : Str} {mt : Tm} (P : Prg n h p hs mp mk mt) (g : Gr h h') : Prg n h' p hs mp mk mt := by
  obtain ⟨hl, hv, tp, e1, e2, ht, tt⟩ := P
  exact ⟨hl, hv, tp, g.get e1, g.get e2, HT.fm (g.fm (Nat.le_refl _)) ht, tt.gr g⟩
theorem HallO.drop {h : PH} {hp w c : Nat} {fs : List (Nat × PV)} {hs : List Hs} (H : HallO h hp hs) (e : h[w]? = some (.ins c fs)) (nc : c ≠ n_Hall) : HallO (h.set w (.frl [])) hp hs := by
  obtain ⟨oa, ab, ow, hd, kab, kow, khd, e1, e2, ⟨e3, e4, e5⟩, e6⟩ := H
  have up : ∀ {a : Nat} {o : PO}, (.ins c fs ≠ o) → h[a]? = some o → (h.set w (.frl []))[a]? = some o := fun {a o} n ea => by
    have : w ≠ a := fun z => by rw [z, ea] at e; exact n (Option.some.inj e).symm
    rw [List.getElem?_set_ne this]; exact ea
  refine ⟨oa, ab, ow, hd, kab, kow, khd, up (fun z => by cases z; exact nc rfl) e1, up (fun z => by cases z) e2, ⟨up (fun z => by cases z) e3, up (fun z => by cases z) e4, up (fun z => by cases z) e5⟩, fun x m => ?_⟩
  obtain ⟨a1, ⟨u, b1, b2, b3⟩, w, c1, c2, c3⟩ := e6 x m
  exact ⟨a1, ⟨u, b1, b2, up (fun z => by cases z) b3⟩, w, c1, c2, up (fun z => by cases z) c3⟩
section
variable {C : WC} {hg h h' : PH} {s s' : WS} {k n : Nat} {l : Loc} {D : En} {X : KX} {Q : KQ}
/-- the last turn -/
theorem go_last {e : PV} (hl : l[3]? = some (some (.ref C.w))) (G : WG C hg) (W : WK C hg h s) (en : s.ended = .non) (ed : s.due = .non) (ew : s.ws = []) (L : Last s.ms s.got e) (q : ∀ h', Fx C h h' → WK C hg h' { s with ended := e } → Go (k + 1) l D n h') : Go (k + 1) l D (n + 1) h := by
  refine go_step hl W en (xFn (d := d_Walk_goes) rfl rfl ?_)
  refine sIf (r := false) (tC (xAtV (i := 0) (p := C.w) rfl W.ob rfl rfl (xN (cNtN ?_))))
  rw [ed]
  refine ⟨rfl, ?_⟩
  refine sIf (r := false) (tC (xAtV (i := 0) (p := C.w) rfl W.ob rfl rfl (xLst (aN ⟨by show 0 ≤ 16777216; decide, fun h1 N => ?_⟩))))
  refine ne_nil (lst_got (N.get W.lw)) (lst_got N.at_) ⟨by rw [ew]; rfl, ?_⟩
  have W1 := W.nw G N
  generalize eg : s.got = g at L
  cases L with
  | @int i =>
    refine sIf (r := false) (tV (xIsi (t := "int") (xAtV (i := 0) (p := C.w) rfl W1.ob rfl rfl ⟨by rw [eg]; rfl, rfl, rfl, ?_⟩)))
    refine set_ended (i := 0) (v := .tup [.str "value", .int i]) G W1 rfl (fun R r => xTup (aC (xS (a1 (xAtV (i := 0) (p := C.w) rfl W1.ob rfl rfl ⟨lz2, by rw [eg]; exact r⟩))))) fun h2 F2 W2 => ?_
    exact sEnd (q h2 (Stays.trans N.stays F2) W2)
  | @bl i =>
    refine sIf (r := false) (tV (xIsi (t := "bool") (xAtV (i := 0) (p := C.w) rfl W1.ob rfl rfl ⟨by rw [eg]; rfl, rfl, rfl, ?_⟩)))
    refine set_ended (i := 0) (v := .tup [.str "value", .bl i]) G W1 rfl (fun R r => xTup (aC (xS (a1 (xAtV (i := 0) (p := C.w) rfl W1.ob rfl rfl ⟨lz2, by rw [eg]; exact r⟩))))) fun h2 F2 W2 => ?_
    exact sEnd (q h2 (Stays.trans N.stays F2) W2)
  | @th m x r em =>
    refine sIf (r := true) (tV (xIsi (t := "tuple") (xAtV (i := 0) (p := C.w) rfl W1.ob rfl rfl ⟨by rw [eg]; rfl, rfl, rfl, ?_⟩)))
    refine set_ended (i := 0) (v := .tup [.str "thing", x]) G W1 rfl (fun R hr => xTup (aC (xS (a1 (xIdx (xIdx (xAtV (i := 0) (p := C.w) rfl W1.ob rfl rfl (xIdx (xAtV (i := 0) (p := C.w) rfl W1.ob rfl rfl ?_))))))))) fun h2 F2 W2 => ?_
    · rw [eg]
      exact xI ⟨_, rfl, _, _, lst_got W1.lm, at_thing em, xI ⟨_, atI_nat (k := 0), lz2, hr⟩⟩
    exact sEnd (q h2 (Stays.trans N.stays F2) W2)
/-- what is told when all is over -/
theorem go_rest (hl : l[3]? = some (some (.ref C.w))) (W : WK C hg h s) (en : isNonB s.ended = false) (q : ∀ h', Nw h (.lst s.ms) h' → D.rt (.tup [s.ended, .int s.cnt, .ref h.length]) h') : Go k l D (n + 1) h := by
  refine go_end hl W en ?_
  refine sR (xTup (aC (xAtV (i := 3) (p := C.w) hl W.ob rfl rfl (aC (xAtV (i := 3) (p := C.w) hl W.ob rfl rfl (a1 (xBf (a1 (xAtV (i := 3) (p := C.w) hl W.ob rfl rfl ⟨_, lst_got W.lm, lz3, q _ Nw.of⟩)))))))))
/-- the names and the words of the houses -/
theorem s_pairs {p hl : Nat} {hv : List PV} {hs : List Hs} {m : PV} (h1 : l[1]? = some (some (.ref p))) (hi : 3 < l.length) (e1 : h[p]? = some (.ins n_Program [(n_houses_told, .ref hl), (n_main_told, m)])) (e2 : h[hl]? = some (.lst hv)) (ht : HT n h hs hv) (hz : hs.length ≤ 900)
    (q : ∀ h', Gr h h' → h'[h.length]? = some (.lst ((hv.map kvOf).map fun p => .tup [p.1, p.2])) → Q (.ref h.length) h') :
    evE sgT (callS sgT k) X (.lc (.tup (.cons (.idx (.var 3) (.int 0)) (.cons (.idx (.var 3) (.int 3)) .nil))) (.nm 3) (.seq (.attr (.var 1) n_houses_told)) .no) l h Q := by
  have ln := HT.len ht
  refine xLc hi (iSeq (xAtV h1 e1 rfl rfl ⟨lst_got e2, fun h2 N => ?_⟩))
  refine comp_inv (fun i acc h' => Gr h h' ∧ acc = ((hv.map kvOf).take i).map fun p => .tup [p.1, p.2]) (fun i acc h' iv => lst_got (iv.1.get e2)) _ 0 [] h2 ⟨N.gr, rfl⟩ N.at_ (by show 0 + _ ≤ 16777216; omega) (fun i x acc h' K ex iv ea c1 _ => ?_) fun acc h' iv ea => ?_
  · obtain ⟨g, rfl⟩ := iv
    obtain ⟨y, wl, tv, _, rfl, _, _⟩ := HT.get ht ex
    have e9 : ((l.set 3 none).set 3 (some (.tup [.str y.nm, elV y.el, prs y.fs, .ref wl])))[3]? = some (some (.tup [.str y.nm, elV y.el, prs y.fs, .ref wl])) := by rw [List.getElem?_set_self (by simpa using hi)]
    refine xTup (aC (xIdx (xV e9 (xI ⟨_, rfl, a1 (xIdx (xV e9 (xI ⟨_, rfl, lz2, ?_⟩)))⟩))))
    refine c1 _ _ ea fun h4 u => ⟨Gr.up g u (Nat.le_refl _), ?_⟩
    have ex2 : (hv.map kvOf)[i]? = some (.str y.nm, .ref wl) := by rw [List.getElem?_map, ex]; rfl
    rw [show (hv.map kvOf).take (0 + i + 1) = (hv.map kvOf).take (0 + i) ++ [(.str y.nm, .ref wl)] by rw [Nat.zero_add, List.take_succ, ex2]; rfl, List.map_append]; rfl
  · obtain ⟨g, rfl⟩ := iv
    rw [Nat.zero_add, List.take_of_length_le (by simp)] at ea
    exact q h' g ea
/-- a walk is made -/
theorem s_mkWalk {p : Nat} {mo : Int} {hs : List Hs} {mp : List (Str × Str)} {mk : Str} {mt : Tm} (P : Prg n h p hs mp mk mt) (nd : (hs.map (·.nm)).Nodup) (hz : hs.length ≤ 900) (hw : ∀ x ∈ hs, x.ws.length ≤ 900)
    (q : ∀ h' C hg b, C.hs = hs → C.most = mo → (h.length ≤ C.w ∧ h.length ≤ C.wl ∧ h.length ≤ C.ml) → (b ≠ C.w ∧ b ≠ C.wl ∧ b ≠ C.ml) → h'[b]? = some (.lst []) → WG C hg → Fm 0 0 h hg → WK C hg h' ⟨.non, .non, .non, b, .non, .non, 0, 0, [], []⟩ → Gr h h' → Q (.ref C.w) h') :
    callS sgT (k + 4) (.mk n_Walk) [.ref p, .int mo] h Q X := by
  refine xNew rfl fun h1 N => xFn (d := d_Walk___init__) rfl rfl ?_
  refine sF (i := 0) (p := h.length) rfl (xMk (a1 (xV (i := 1) rfl (s_hall (k := k) (P.gr N.gr) nd hz hw fun h2 g2 H2 => ⟨_, _, g2.get N.at_, rfl, by show (0 : Nat) < 900; omega, fun h3 u3 => ?_⟩))))
  have N2 := g2.get N.at_
  have l1 := N.len
  have g12 : Gr h h2 := N.gr.trans g2
  have l2 := g2.le
  have g3 : Gr h h3 := Gr.up g12 u3 (Nat.le_refl _)
  have P3 := P.gr g3
  obtain ⟨hl, hv, tp, e1, e2, ht, tt⟩ := P
  obtain ⟨hl', hv', tp', f1, f2, ft, _⟩ := P3
  have q1 := (g3.get e1).symm.trans f1
  cases q1
  have q2 := (g3.get e2).symm.trans f2
  cases q2
  refine sF (i := 0) (p := h.length) rfl (xBf (a1 (s_pairs (p := p) rfl (by show 3 < 4; decide) f1 f2 ft hz fun h4 g4 e4 => ⟨hv.map kvOf, lst_got e4, HT.keys ft, ?_⟩)))
  have N5 := Nw.of (h := h4) (o := .dic (mergeP [] (hv.map kvOf)))
  generalize h4 ++ [PO.dic (mergeP [] (hv.map kvOf))] = h5 at N5 ⊢
  refine ⟨_, _, N5.get (g4.get u3.at_), rfl, by show (1 : Nat) < 900; omega, fun h6 u6 => ?_⟩
  have s6 : Stays [h.length] h2 h6 := (((u3.stays (by simp)).trans g4.stays).trans N5.stays).trans (u6.stays (by simp))
  have l3 := u3.len
  have l4 := g4.le
  have l5 := N5.len
  have l6 := u6.len
  have d6 := u6.get (by omega) N5.at_
  refine sF (i := 0) (p := h.length) rfl (xV (i := 2) rfl ⟨_, _, u6.at_, rfl, by show (2 : Nat) < 900; omega, fun h7 u7 => ?_⟩)
  have l7 := u7.len
  refine sF (i := 0) (p := h.length) rfl (xLst (aN ⟨by decide, fun h8 N8 => ⟨_, _, N8.get u7.at_, rfl, by show (3 : Nat) < 900; omega, fun h9 u9 => ?_⟩⟩))
  have l8 := N8.len
  have l9 := u9.len
  have m9 := u9.get (by omega) N8.at_
  refine sF (i := 0) (p := h.length) rfl (xI ⟨_, _, u9.at_, rfl, by show (4 : Nat) < 900; omega, fun ha ua => ?_⟩)
  refine sF (i := 0) (p := h.length) rfl (xI ⟨_, _, ua.at_, rfl, by show (5 : Nat) < 900; omega, fun hb ub => ?_⟩)
  have la := ua.len
  have lb := ub.len
  refine sF (i := 0) (p := h.length) rfl (xLst (aN ⟨by decide, fun hc Nc => ⟨_, _, Nc.get ub.at_, rfl, by show (6 : Nat) < 900; omega, fun hd ud => ?_⟩⟩))
  have lc := Nc.len
  have ld := ud.len
  have wd := ud.get (by omega) Nc.at_
  have md := ud.get (by omega) (Nc.get (ub.get (by omega) (ua.get (by omega) m9)))
  refine sF (i := 0) (p := h.length) rfl (xLst (aN ⟨by decide, fun he Nn => ⟨_, _, Nn.get ud.at_, rfl, by show (7 : Nat) < 900; omega, fun hf uf => ?_⟩⟩))
  have le := Nn.len
  have lf := uf.len
  have bf := uf.get (by omega) Nn.at_
  have wf_ := uf.get (by omega) (Nn.get wd)
  have mf := uf.get (by omega) (Nn.get md)
  have s6f : Stays [h.length] h6 hf := (((((((((u7.stays (by simp)).trans N8.stays).trans (u9.stays (by simp))).trans (ua.stays (by simp))).trans (ub.stays (by simp))).trans Nc.stays).trans (ud.stays (by simp))).trans Nn.stays).trans (uf.stays (by simp)))
  refine sF (i := 0) (p := h.length) rfl (xN ⟨_, _, uf.at_, rfl, by show (8 : Nat) < 900; omega, fun h10 u10 => ?_⟩)
  refine sF (i := 0) (p := h.length) rfl (xN ⟨_, _, u10.at_, rfl, by show (9 : Nat) < 900; omega, fun h11 u11 => ?_⟩)
  refine sF (i := 0) (p := h.length) rfl (xN ⟨_, _, u11.at_, rfl, by show (10 : Nat) < 900; omega, fun h12 u12 => ?_⟩)
  refine sF (i := 0) (p := h.length) rfl (xN ⟨_, _, u12.at_, rfl, by show (11 : Nat) < 900; omega, fun h13 u13 => ?_⟩)
  refine sF (i := 0) (p := h.length) rfl (xN ⟨_, _, u13.at_, rfl, by show (12 : Nat) < 900; omega, fun h14 u14 => sEnd ⟨rfl, ?_⟩⟩)
  have l10 := u10.len
  have l11 := u11.len
  have l12 := u12.len
  have l13 := u13.len
  have l14 := u14.len
  have up : ∀ {a : Nat} {o : PO}, a ≠ h.length → hf[a]? = some o → h14[a]? = some o := fun n e => u14.get n (u13.get n (u12.get n (u11.get n (u10.get n e))))
  have s614 : Stays [h.length] h6 h14 := ((((s6f.trans (u10.stays (by simp))).trans (u11.stays (by simp))).trans (u12.stays (by simp))).trans (u13.stays (by simp))).trans (u14.stays (by simp))
  have s14 : Stays [h.length] h2 h14 := s6.trans s614
  have g14 : Gr h h14 := Stays.gr g12 s14 (by simp)
  have d14 : h14[h4.length]? = some (.dic (mergeP [] (hv.map kvOf))) := s614.at_ _ _ (by simp; omega) d6
  have sets : ∀ a, (((h14.set h.length (.frl [])).set hb.length (.frl [])).set h7.length (.frl []))[a]? = if a = h7.length ∨ a = hb.length ∨ a = h.length then some (.frl []) else h14[a]? := fun a => by
    by_cases c1 : a = h7.length
    · rw [if_pos (.inl c1), c1, List.getElem?_set_self (by simp; omega)]
    · rw [List.getElem?_set_ne (Ne.symm c1)]
      by_cases c2 : a = hb.length
      · rw [if_pos (.inr (.inl c2)), c2, List.getElem?_set_self (by simp; omega)]
      · rw [List.getElem?_set_ne (Ne.symm c2)]
        by_cases c3 : a = h.length
        · rw [if_pos (.inr (.inr c3)), c3, List.getElem?_set_self (by omega)]
        · rw [List.getElem?_set_ne (Ne.symm c3), if_neg (by omega)]
  generalize ((h14.set h.length (.frl [])).set hb.length (.frl [])).set h7.length (.frl []) = hg at sets
  have getg : ∀ {a : Nat} {o : PO}, a ≠ h7.length → a ≠ hb.length → a ≠ h.length → h14[a]? = some o → hg[a]? = some o := fun n1 n2 n3 e => by rw [sets, if_neg (by omega)]; exact e
  have upg : ∀ {a : Nat} {o : PO}, h[a]? = some o → hg[a]? = some o := fun e => by
    have := lt_of e
    exact getg (by omega) (by omega) (by omega) (g14.get e)
  have f0 : Fm 0 0 hg h14 := ⟨Nat.le_refl _, fun a o _ fr e => by
    rw [sets] at e
    split at e
    · cases e; cases fr
    · exact e⟩
  have lg : hg.length ≤ h14.length := by
    rcases Nat.lt_or_ge h14.length hg.length with z | z
    · have e := sets h14.length
      rw [if_neg (by omega), List.getElem?_eq_getElem z, List.getElem?_eq_none (Nat.le_refl _)] at e
      cases e
    · exact z
  have hall : HallO hg h1.length hs := by
    refine (H2.drop N2 (by decide)).fm ⟨Nat.le_refl _, fun a o _ fr e => ?_⟩
    by_cases c : a = h.length
    · rw [c, List.getElem?_set_self (by omega)] at e; cases e; cases fr
    · rw [List.getElem?_set_ne (Ne.symm c)] at e
      have := lt_of e
      exact getg (by omega) (by omega) c (s14.at_ _ _ (by simpa using c) e)
  refine q h14 ⟨h.length, hb.length, h7.length, h1.length, h4.length, mo, hs⟩ hg hd.length rfl rfl ⟨Nat.le_refl _, by show h.length ≤ hb.length; omega, by show h.length ≤ h7.length; omega⟩ ⟨by show hd.length ≠ h.length; omega, by show hd.length ≠ hb.length; omega, by show hd.length ≠ h7.length; omega⟩ (up (by omega) bf) ⟨hall, ⟨_, getg (a := h4.length) (by omega) (by omega) (by omega) d14, fun x m => ?_⟩, ?_, ?_, ?_, by show hb.length ≠ h7.length; omega⟩ ⟨Nat.le_refl _, fun a o _ _ e => upg e⟩ ⟨f0, u14.at_, up (by show hb.length ≠ h.length; omega) wf_, up (by show h7.length ≠ h.length; omega) mf, lg⟩ g14
  · obtain ⟨a, tv, z1, z2, z3⟩ := HT.look [] ht nd x m
    exact ⟨a, tv, z1, upg z2, WT.fm ⟨Nat.zero_le _, fun a o _ _ e => upg e⟩ z3⟩
  · show hg[h.length]? = _; rw [sets, if_pos (by omega)]
  · show hg[hb.length]? = _; rw [sets, if_pos (by omega)]
  · show hg[h7.length]? = _; rw [sets, if_pos (by omega)]
/-- how a walk of a program ends -/
def Ends (C : WC) (mt : Tm) (bd : Bd) (e : PV) (st : Sta) : Prop := ∃ n, n < Cp ∧ ((∃ v, Ev C n (.tm mt) ⟨.non, .non, bd, 0⟩ ⟨[], 0⟩ (.val v) st ∧ Last st.ms v e) ∨ (Ev C n (.tm mt) ⟨.non, .non, bd, 0⟩ ⟨[], 0⟩ (.stop e) st ∧ isNonB e = false))
theorem s_walked {p va : Nat} {mo : Int} {hs : List Hs} {mp : List (Str × Str)} {mk : Str} {mt : Tm} {vs : List PV} {e : PV} {st : Sta} (P : Prg n h p hs mp mk mt) (nd : (hs.map (·.nm)).Nodup) (hz : hs.length ≤ 900) (hw : ∀ x ∈ hs, x.ws.length ≤ 900) (ev : h[va]? = some (.lst vs)) (hvs : vs.length ≤ 900)
    (E : ∀ C : WC, C.hs = hs → C.most = mo → Ends C mt (zipB mp vs) e st) (q : ∀ h' a, Fm 0 0 h h' → h'[a]? = some (.lst st.ms) → Q (.tup [e, .int st.cnt, .ref a]) h') :
    callS sgT (k + 13) (.fn n_walked) [.ref p, .ref va, .int mo] h Q X := by
  refine xFn (d := d_walked) rfl rfl ?_
  refine sAs (by show 3 < 9; decide) (xMk (aC (xV (i := 0) rfl (a1 (xV (i := 2) rfl (s_mkWalk (k := k + 8) P nd hz hw fun h1 C hg b c1 c2 ⟨lw, ll, lm⟩ nb eb G f0 W g1 => ?_))))))
  obtain ⟨hl, hv, tp, e1, e2, ht, tt⟩ := P
  refine sAT (xs := [prs mp, .str mk, .ref tp]) (xAtV (i := 0) (p := p) rfl (g1.get e1) rfl rfl ⟨rfl, rfl, ?_⟩)
  refine ⟨_, _, rfl, ⟨by show 4 < 9; decide, _, _, rfl, ⟨by show 5 < 9; decide, _, _, rfl, ⟨by show 6 < 9; decide, rfl, ?_⟩⟩⟩⟩
  refine set_bound (i := 3) (a := 0) (s := ⟨.non, .non, .non, b, .non, .non, 0, 0, [], []⟩) G rfl (s_bind (i5 := 7) (i6 := 8) (va := va) (ps := mp) (by show 7 < 9; decide) (by show 8 < 9; decide) (by decide) (fun S r => xV (i := 4) rfl r) (fun S r => xV (i := 1) rfl r) (g1.get ev) hvs fun h2 g2 e2' => ⟨_, rfl, W.fx G g2, fun h3 F3 W3 => ?_⟩)
  have nb2 := W.fresh (Nat.le_refl h1.length)
  have eb3 := Fx.keep F3 (W.fx G g2) e2' nb2.1 nb2.2.1 nb2.2.2
  refine set_due (i := 3) G W3 rfl (fun R r => xV (i := 6) rfl r) fun h4 F4 W4 => ?_
  have eb4 := Fx.keep F4 W3 eb3 nb2.1 nb2.2.1 nb2.2.2
  have F14 : Fx C h1 h4 := (g2.stays.trans F3).trans F4
  have tm : TO 0 hg mt tp := TO.fm ⟨Nat.zero_le _, fun a o _ fr e => f0.at_ a o (Nat.zero_le _) fr e⟩ _ _ tt
  have M4 : Mt C h4 ⟨.ref tp, .non, .non, h1.length, .non, .non, 0, 0, [], []⟩ ⟨.non, .non, zipB mp vs, 0⟩ ⟨[], 0⟩ := ⟨rfl, rfl, rfl, eb4, nb2, rfl, rfl, rfl⟩
  have fin : ∀ {h5 h7 : PH} {s : WS} {o : PO}, WK C hg h5 s → Nw h5 o h7 → Fm 0 0 h h7 := fun W N => ⟨Nat.le_refl _, fun a o z fr e => N.get (W.gd.at_ a o z fr (f0.at_ a o z fr e))⟩
  obtain ⟨nn, hn, E⟩ := E C c1 c2
  rcases E with ⟨v, E, L⟩ | ⟨E, hE⟩
  · obtain ⟨j, S⟩ := ev_spec G E
    refine sWhl (2 + j) ?_
    show Go (k + 12) _ _ (2 + j) h4
    refine S k _ _ 2 h4 _ tp rfl W4 M4 (by show 0 + nn < Cp; omega) rfl tm fun h5 F5 W5 => ?_
    refine go_last (k := k + 11) rfl G W5 rfl rfl rfl L fun h6 F6 W6 => ?_
    refine go_rest rfl W6 L.nn fun h7 N7 => ?_
    exact q h7 h6.length (fin W6 N7) N7.at_
  · obtain ⟨j, S⟩ := ev_spec G E
    refine sWhl (1 + j) ?_
    show Go (k + 12) _ _ (1 + j) h4
    refine S k _ _ 1 h4 _ tp rfl W4 M4 (by show 0 + nn < Cp; omega) rfl tm fun h5 s5 W5 i1 i2 i3 => ?_
    subst i1
    refine go_rest rfl W5 hE fun h7 N7 => ?_
    rw [i2] at N7
    rw [i3]
    exact q h7 h5.length (fin W5 N7) N7.at_
end
end Py

set_option Elab.async false
set_option linter.all false
set_option maxRecDepth 100000
set_option maxHeartbeats 8000000
/-! What the programs of this law come to. -/
namespace Py
open PySem
theorem Ev.up {C : WC} {n : Nat} {job : Jb} {cx : Cx} {st st' : Sta} {o : Ou} (e : Ev C n job cx st o st') : Ev C (n + 1) job cx st o st' := by
  induction e with
  | num => exact .num
  | tru => exact .tru
  | nam ev => exact .nam ev
  | slf => exact .slf
  | new hz _ hm i => exact .new hz i hm
  | newX hz _ i => exact .newX hz i
  | cal hz _ em ch he ef _ i1 i2 => exact .cal hz i1 em ch he ef i2
  | calX hz _ i => exact .calX hz i
  | eld hz _ eh ch he ef _ i1 i2 => exact .eld hz i1 eh ch he ef i2
  | eldX hz _ i => exact .eldX hz i
  | fld _ em ch he hf ep ev i => exact .fld i em ch he hf ep ev
  | fldX _ i => exact .fldX i
  | nt _ i => exact .nt i
  | ntX _ i => exact .ntX i
  | seq _ i => exact .seq i
  | same _ ox oy i => exact .same i ox oy
  | two hw _ hx hy ht i => exact .two hw i hx hy ht
  | twoR hw _ hx hy ht i => exact .twoR hw i hx hy ht
  | twoX _ i => exact .twoX i
  | ite _ _ i1 i2 => exact .ite i1 i2
  | iteX _ i => exact .iteX i
  | lett _ hb _ i1 i2 => exact .lett i1 hb i2
  | letX _ i => exact .letX i
  | sett _ em ch hz hf ep il hh i => exact .sett i em ch hz hf ep il hh
  | setX _ i => exact .setX i
  | nil => exact .nil
  | cons _ _ i1 i2 => exact .cons i1 i2
  | consX _ i => exact .consX i
  | consY _ _ i1 i2 => exact .consY i1 i2
  | dry e => exact .dry e
  | deep e e2 => exact .deep e e2
  | go e e2 my ew hv _ i => exact .go e e2 my ew hv i
theorem Ev.le {C : WC} {n m : Nat} {job : Jb} {cx : Cx} {st st' : Sta} {o : Ou} (e : Ev C n job cx st o st') (l : n ≤ m) : Ev C m job cx st o st' := by
  induction l with
  | refl => exact e
  | step _ ih => exact ih.up
theorem tw_add {x y : Int} (h : small (x + y)) : tw "+" x y = (.int (x + y), true) := by
  obtain ⟨a, b⟩ := h
  have : ¬ (x + y < -1000000000000000 ∨ 1000000000000000 < x + y) := by omega
  simp [tw, this]
theorem tw_mul {x y : Int} (h : small (x * y)) : tw "*" x y = (.int (x * y), true) := by
  obtain ⟨a, b⟩ := h
  have : ¬ (x * y < -1000000000000000 ∨ 1000000000000000 < x * y) := by omega
  simp [tw, this]
/-! ### trees, what they tell -/
abbrev Nd := Option Nat × Option (Bool × Nat)
structure Tr (tr : List Nd) : Prop where
  zero : tr[0]? = some (none, some (false, 1))
  up : ∀ (k : Nat) (e : Option Nat) (p : Option (Bool × Nat)), tr[k]? = some (e, p) → k ≠ 0 → ∃ e', e = some e' ∧ e' < k
  sm : ∀ (k : Nat) (e : Option Nat) (b : Bool) (n : Nat), tr[k]? = some (e, some (b, n)) → n ≤ 4
  len : tr.length ≤ 11
inductive Td (tr : List Nd) : Nat → Nat → Nat → Prop
  | none {k e v c : Nat} : tr[k]? = some (some e, none) → e < k → Td tr e v c → Td tr k v c
  | put {k n : Nat} {e : Option Nat} : tr[k]? = some (e, some (false, n)) → Td tr k n 1
  | more {k e n v c : Nat} : tr[k]? = some (some e, some (true, n)) → e < k → Td tr e v c → Td tr k (n + v) (c + 1)
theorem Td.bnd {tr : List Nd} (T : Tr tr) {k v c : Nat} (t : Td tr k v c) : v ≤ 4 * (k + 1) ∧ c ≤ k + 1 ∧ 1 ≤ c := by
  induction t with
  | none e l _ ih => omega
  | put e => have := T.sm _ _ _ _ e; omega
  | more e l _ ih => have := T.sm _ _ _ _ e; omega
theorem Tr.td {tr : List Nd} (T : Tr tr) (k : Nat) : k < tr.length → ∃ v c, Td tr k v c := by
  induction k using Nat.strongRecOn with
  | _ k ih =>
    intro hk
    obtain ⟨⟨e, p⟩, he⟩ : ∃ x, tr[k]? = some x := ⟨_, List.getElem?_eq_getElem hk⟩
    have nz : (p = none ∨ ∃ n, p = some (true, n)) → k ≠ 0 := fun hp z => by
      rw [z, T.zero] at he
      cases he
      rcases hp with hp | ⟨n, hp⟩ <;> cases hp
    rcases p with _ | ⟨b, n⟩
    · obtain ⟨e', rfl, hl⟩ := T.up k e _ he (nz (.inl rfl))
      obtain ⟨v, c, t⟩ := ih e' hl (by omega)
      exact ⟨v, c, .none he hl t⟩
    · cases b with
      | false => exact ⟨n, 1, .put he⟩
      | true =>
        obtain ⟨e', rfl, hl⟩ := T.up k e _ he (nz (.inr ⟨n, rfl⟩))
        obtain ⟨v, c, t⟩ := ih e' hl (by omega)
        exact ⟨_, _, .more he hl t⟩
/-! ### houses -/
def askW (nm : Nat → Str) : Wd := ⟨"ask", [("x", nm 0)], "number", .cal (.nam "x") "w" []⟩
def meW : Wd := ⟨"me", [], "number", .cal .slf "w" []⟩
def bodW : Bool → Nat → Tm
  | true, n => .two "+" (.num n) (.eld "w" [])
  | false, n => .num n
def wW (b : Bool) (n : Nat) : Wd := ⟨"w", [], "number", bodW b n⟩
def fstW (nm : Nat → Str) (k : Nat) : List Wd := if k = 0 then [askW nm, meW] else []
def lstW : Option (Bool × Nat) → List Wd
  | none => []
  | some (b, n) => [wW b n]
def hsOf (nm : Nat → Str) (k : Nat) (x : Nd) : Hs := ⟨nm k, x.1.map nm, [], fstW nm k ++ lstW x.2⟩
def keeper (nm : Nat → Str) : Hs := ⟨"keeper", none, [("held", nm 0)], []⟩
def hsAll (nm : Nat → Str) (tr : List Nd) : List Hs := tr.mapIdx (hsOf nm) ++ [keeper nm]
theorem wix_w {nm : Nat → Str} {k n : Nat} {b : Bool} : ∃ i, wix "w" (fstW nm k ++ lstW (some (b, n))) = some i ∧ (fstW nm k ++ lstW (some (b, n)))[i]? = some (wW b n) := by
  have d1 : ¬ ((Str.ofString "ask") = Str.ofString "w") := by decide +kernel
  have d2 : ¬ ((Str.ofString "me") = Str.ofString "w") := by decide +kernel
  by_cases h : k = 0
  · exact ⟨2, by simp [fstW, h, lstW, wix, askW, meW, wW, d1, d2], by simp [fstW, h, lstW]⟩
  · exact ⟨0, by simp [fstW, h, lstW, wix, wW], by simp [fstW, h, lstW]⟩
theorem wix_no {nm : Nat → Str} {k : Nat} (h : k ≠ 0) : wix "w" (fstW nm k ++ lstW none) = none := by simp [fstW, h, lstW, wix]
theorem wix_me0 {nm : Nat → Str} {p : Option (Bool × Nat)} : wix "me" (fstW nm 0 ++ lstW p) = some 1 := by
  have d1 : ¬ ((Str.ofString "ask") = Str.ofString "me") := by decide +kernel
  simp [fstW, wix, askW, meW, d1]
theorem wix_me {nm : Nat → Str} {k : Nat} {p : Option (Bool × Nat)} (h : k ≠ 0) : wix "me" (fstW nm k ++ lstW p) = none := by
  have d1 : ¬ ((Str.ofString "w") = Str.ofString "me") := by decide +kernel
  rcases p with _ | ⟨b, n⟩ <;> simp [fstW, h, lstW, wix, wW, d1]
theorem wix_ask {nm : Nat → Str} {p : Option (Bool × Nat)} : wix "ask" (fstW nm 0 ++ lstW p) = some 0 := by simp [fstW, wix, askW]
section
variable {C : WC} {nm : Nat → Str} {tr : List Nd}
theorem hs_mem {k : Nat} {x : Nd} (e : tr[k]? = some x) : hsOf nm k x ∈ hsAll nm tr := List.mem_append_left _ (List.mem_iff_getElem?.mpr ⟨k, by rw [List.getElem?_mapIdx, e]; rfl⟩)
theorem fnd_me0 {es : List Hs} : fnd "me" (hsOf nm 0 (none, some (false, 1)) :: es) = some (hsOf nm 0 (none, some (false, 1)), 1) := by
  show (match wix "me" (fstW nm 0 ++ lstW (some (false, 1))) with | some i => some (hsOf nm 0 (none, some (false, 1)), i) | none => fnd "me" es) = _
  rw [wix_me0]
theorem ev_ch (T : Tr tr) (hm : ∀ x ∈ hsAll nm tr, x ∈ C.hs) (k : Nat) : k < tr.length → ∃ nd es, tr[k]? = some nd ∧ Ch C.hs (hsOf nm k nd) es ∧ es.length ≤ k ∧ fnd "me" (hsOf nm k nd :: es) = some (hsOf nm 0 (none, some (false, 1)), 1) := by
  induction k using Nat.strongRecOn with
  | _ k ih =>
    intro hk
    obtain ⟨⟨e, p⟩, he⟩ : ∃ x, tr[k]? = some x := ⟨_, List.getElem?_eq_getElem hk⟩
    by_cases z : k = 0
    · subst z
      have h0 := T.zero
      rw [he] at h0
      cases h0
      exact ⟨_, [], he, .top (hm _ (hs_mem he)) rfl, by simp, fnd_me0⟩
    · obtain ⟨e', rfl, hl⟩ := T.up k e _ he z
      obtain ⟨nd, es, a1, a2, a3, a5⟩ := ih e' hl (by omega)
      refine ⟨_, hsOf nm e' nd :: es, he, .up (hm _ (hs_mem he)) rfl a2, by simp; omega, ?_⟩
      show (match wix "me" (fstW nm k ++ lstW _) with | some i => some (_, i) | none => fnd "me" _) = _
      rw [wix_me z]; exact a5
/-- a word w of a thing of house k -/
theorem ev_w (T : Tr tr) (hm : ∀ x ∈ hsAll nm tr, x ∈ C.hs) (mo : C.most = 1000) {k v c : Nat} (t : Td tr k v c) :
    ∃ nd es z i, tr[k]? = some nd ∧ Ch C.hs (hsOf nm k nd) es ∧ es.length ≤ k ∧ fnd "w" (hsOf nm k nd :: es) = some (z, i) ∧ fnd "me" (hsOf nm k nd :: es) = some (hsOf nm 0 (none, some (false, 1)), 1) ∧
      ∀ (own : PV) (cx : Cx) (st : Sta), cx.opn + c ≤ 40 → st.cnt + c ≤ 1000 → Ev C (3 * k + 3) (.ent z i own []) cx st (.val (.int v)) ⟨st.ms, st.cnt + c⟩ := by
  have top : ∀ {k : Nat} {e : Option Nat} {b : Bool} {n : Nat}, tr[k]? = some (e, some (b, n)) → k = 0 → e = none ∧ b = false ∧ n = 1 := fun he z => by
    rw [z, T.zero] at he; cases he; exact ⟨rfl, rfl, rfl⟩
  have chain : ∀ {k e : Nat} {p : Option (Bool × Nat)}, tr[k]? = some (some e, p) → ∀ {nd : Nd} {es : List Hs}, Ch C.hs (hsOf nm e nd) es → Ch C.hs (hsOf nm k (some e, p)) (hsOf nm e nd :: es) := fun he nd es ch => .up (hm _ (hs_mem he)) rfl ch
  have me : ∀ {k e : Nat} {p : Option (Bool × Nat)} {es : List Hs}, k ≠ 0 → fnd "me" es = some (hsOf nm 0 (none, some (false, 1)), 1) → fnd "me" (hsOf nm k (some e, p) :: es) = some (hsOf nm 0 (none, some (false, 1)), 1) := fun h q => by
    show (match wix "me" (fstW nm _ ++ lstW _) with | some i => some (_, i) | none => fnd "me" _) = _
    rw [wix_me h]; exact q
  induction t with
  | @none k e v c he hl _ ih =>
    obtain ⟨nd, es, z, i, a1, a2, a3, a4, a5, a6⟩ := ih
    refine ⟨_, _, z, i, he, chain he a2, by simp; omega, ?_, me (by omega) a5, fun own cx st h1 h2 => (a6 own cx st h1 h2).le (by omega)⟩
    show (match wix "w" (fstW nm _ ++ lstW none) with | some i => some (_, i) | none => fnd "w" _) = _
    rw [wix_no (by omega)]; exact a4
  | @put k n e he =>
    obtain ⟨i, w1, w2⟩ := wix_w (nm := nm) (k := k) (n := n) (b := false)
    have ent : ∀ (own : PV) (cx : Cx) (st : Sta), cx.opn + (1 : Nat) ≤ 40 → st.cnt + (1 : Nat) ≤ 1000 → Ev C (3 * k + 3) (.ent (hsOf nm k (e, some (false, n))) i own []) cx st (.val (.int n)) ⟨st.ms, st.cnt + (1 : Nat)⟩ := fun own cx st h1 h2 =>
      .go (n := 3 * k + 2) (wd := wW false n) (by rw [mo]; omega) (by omega) (hm _ (hs_mem he)) w2 (by simp) .num
    have fw : ∀ es, fnd "w" (hsOf nm k (e, some (false, n)) :: es) = some (hsOf nm k (e, some (false, n)), i) := fun es => by
      show (match wix "w" (fstW nm _ ++ lstW _) with | some i => some (_, i) | none => fnd "w" _) = _
      rw [w1]
    by_cases hk : k = 0
    · subst hk
      obtain ⟨rfl, _, rfl⟩ := top he rfl
      exact ⟨_, [], _, i, he, .top (hm _ (hs_mem he)) rfl, by simp, fw _, fnd_me0, ent⟩
    · obtain ⟨e', rfl, hl⟩ := T.up k e _ he hk
      obtain ⟨nd, es, a2, a3, a5⟩ : ∃ nd es, Ch C.hs (hsOf nm e' nd) es ∧ es.length ≤ e' ∧ fnd "me" (hsOf nm e' nd :: es) = some (hsOf nm 0 (none, some (false, 1)), 1) := by
        obtain ⟨nd, es, _, q⟩ := ev_ch (nm := nm) T hm e' (by have := (List.getElem?_eq_some_iff.mp he).1; omega)
        exact ⟨nd, es, q⟩
      exact ⟨_, _, _, i, he, chain he a2, by simp; omega, fw _, me hk a5, ent⟩
  | @more k e n v c he hl t' ih =>
    obtain ⟨nd, es, z, i, a1, a2, a3, a4, a5, a6⟩ := ih
    obtain ⟨j, w1, w2⟩ := wix_w (nm := nm) (k := k) (n := n) (b := true)
    have b1 := T.sm _ _ _ _ he
    have b2 := Td.bnd T t'
    have b3 := T.len
    have b4 := (List.getElem?_eq_some_iff.mp he).1
    refine ⟨_, _, hsOf nm k (some e, some (true, n)), j, he, chain he a2, by simp; omega, ?_, me (by omega) a5, fun own cx st h1 h2 => ?_⟩
    · show (match wix "w" (fstW nm _ ++ lstW _) with | some i => some (_, i) | none => fnd "w" _) = _
      rw [w1]
    · refine .go (n := 3 * k + 2) (wd := wW true n) (by rw [mo]; omega) (by omega) (hm _ (hs_mem he)) w2 (by simp) ?_
      have ht : tw "+" (n : Nat) (v : Nat) = (.int ((n : Nat) + (v : Nat) : Int), true) := tw_add ⟨by omega, by omega⟩
      have r := Ev.two (C := C) (n := 3 * k + 2) (w := "+") (a := .num n) (b := .eld "w" []) (x := n) (y := v) (cx := ⟨own, .str (nm k), [], cx.opn + 1⟩) (st := ⟨st.ms, st.cnt + 1⟩) (st1 := ⟨st.ms, st.cnt + 1 + c⟩) (.inl rfl) (.cons (n := 3 * k + 1) .num (.cons (n := 3 * k + 1) (.eld (x := hsOf nm k (some e, some (true, n))) (e := hsOf nm e nd) (by simp) .nil rfl (chain he a2) (by omega) a4 ((a6 own _ ⟨st.ms, st.cnt + 1⟩ (by show cx.opn + 1 + c ≤ 40; omega) (by show st.cnt + 1 + c ≤ 1000; omega)).le (by omega))) .nil)) ⟨by omega, by omega⟩ ⟨by omega, by omega⟩ (by rw [ht])
      rw [ht] at r
      have e1 : st.cnt + ((c + 1 : Nat) : Int) = st.cnt + 1 + c := by omega
      rw [e1, show (((n + v : Nat)) : Int) = (n : Nat) + (v : Nat) by omega]
      exact r
end
end Py

set_option Elab.async false
set_option linter.all false
set_option maxRecDepth 100000
set_option maxHeartbeats 8000000
/-! What is asked of the things, and what comes of it. -/
namespace Py
open PySem
abbrev Md := Str × Option Int
def asked (nm : Nat → Str) (way k : Nat) : Tm × List Md × Nat :=
  match way with
  | 0 => (.cal (.new (nm k) []) "w" [], [(nm k, none)], 0)
  | 1 => (.lett "x" (.new (nm k) []) (.cal (.nam "x") "w" []), [(nm k, none)], 0)
  | 2 => (.cal (.new (nm 0) []) "ask" [.new (nm k) []], [(nm 0, none), (nm k, none)], 1)
  | 3 => (.cal (.new (nm k) []) "me" [], [(nm k, none)], 1)
  | 4 => (.cal (.fld (.new "keeper" [.new (nm k) []]) "held") "w" [], [(nm k, none), ("keeper", some (-1))], 0)
  | _ => (.cal (.sett (.new "keeper" [.new (nm 0) []]) "held" (.new (nm k) [])) "w" [], [(nm 0, none), ("keeper", some 1), (nm k, none)], 0)
/-- the things as the walk keeps them -/
def mdOf : Nat → List Md → List PV
  | _, [] => []
  | L, (s, none) :: r => .tup [.str s, .tup []] :: mdOf (L + 1) r
  | L, (s, some d) :: r => .tup [.str s, .tup [.tup [.str "thing", .int ((L : Nat) + d)]]] :: mdOf (L + 1) r
section
variable {C : WC} {nm : Nat → Str} {tr : List Nd} {n : Nat} {cx : Cx} {st st1 : Sta}
def th0 (s : Str) : PV := .tup [.str s, .tup []]
theorem ev_new0 {s : Str} (h : st.ms.length < 1000) : Ev C n (.tm (.new s [])) cx st (.val (thV st.ms.length)) ⟨st.ms ++ [th0 s], st.cnt⟩ := .new (by simp) .nil (by omega)
theorem at_app {xs ys : List PV} {i : Nat} {v : PV} (e : ys[i]? = some v) : (xs ++ ys)[xs.length + i]? = some v := by rw [List.getElem?_append_right (by omega), Nat.add_sub_cancel_left]; exact e
theorem one {t : Tm} {v : PV} (e : Ev C n (.tm t) cx st (.val v) st1) : Ev C (n + 1) (.tms [t]) cx st (.vals [v]) st1 := .cons e .nil
variable (T : Tr tr) (hm : ∀ x ∈ hsAll nm tr, x ∈ C.hs) (mo : C.most = 1000)
include T hm mo
/-- a word w is asked of thing m -/
theorem ev_call {k v c m : Nat} {t : Tm} (d : Td tr k v c) (S : Ev C 50 (.tms [t]) cx st (.vals [thV m]) st1) (em : st1.ms[m]? = some (th0 (nm k))) (h1 : cx.opn + c ≤ 40) (h2 : st1.cnt + c ≤ 1000) : Ev C 50 (.tm (.cal t "w" [])) cx st (.val (.int v)) ⟨st1.ms, st1.cnt + c⟩ := by
  obtain ⟨nd, es, z, i, a1, a2, a3, a4, a5, a6⟩ := ev_w T hm mo d
  have l := T.len
  have l2 := (List.getElem?_eq_some_iff.mp a1).1
  exact .cal (y := hsOf nm k nd) (by simp) S em a2 (by omega) a4 ((a6 _ _ _ h1 h2).le (by omega))
theorem ev_asked {k v c way : Nat} (d : Td tr k v c) (hw : way < 6) (ho : cx.opn = 0) (hb : cx.bd = []) (hL : st.ms.length ≤ 100) (hc : st.cnt + c + 1 ≤ 1000) :
    Ev C 60 (.tm (asked nm way k).1) cx st (.val (.int v)) ⟨st.ms ++ mdOf st.ms.length (asked nm way k).2.1, st.cnt + c + (asked nm way k).2.2⟩ := by
  obtain ⟨nd, es, z, i, a1, a2, a3, a4, a5, a6⟩ := ev_w T hm mo d
  have l := T.len
  have l2 := (List.getElem?_eq_some_iff.mp a1).1
  obtain ⟨_, b2, b3⟩ := Td.bnd T d
  have m0 := hm _ (hs_mem (nm := nm) T.zero)
  have mk := hm _ (List.mem_append_right (tr.mapIdx (hsOf nm)) (List.mem_singleton.mpr (rfl : keeper nm = keeper nm)))
  have chk : Ch C.hs (keeper nm) [] := .top mk rfl
  have new1 : ∀ (s : Str) (n : Nat) (cx : Cx), Ev C n (.tm (.new s [])) cx st (.val (thV st.ms.length)) ⟨st.ms ++ [th0 s], st.cnt⟩ := fun s n cx => ev_new0 (by omega)
  have at1 : ∀ s, (st.ms ++ [th0 s])[st.ms.length]? = some (th0 s) := fun s => at_app (i := 0) rfl
  match way, hw with
  | 0, _ =>
    show Ev C 60 _ cx st _ ⟨st.ms ++ [th0 (nm k)], st.cnt + c + 0⟩
    rw [Int.add_zero]
    exact (ev_call T hm mo d (one (n := 49) (new1 _ _ _)) (at1 _) (by omega) (by show st.cnt + c ≤ 1000; omega)).le (by omega)
  | 1, _ =>
    show Ev C 60 _ cx st _ ⟨st.ms ++ [th0 (nm k)], st.cnt + c + 0⟩
    rw [Int.add_zero]
    refine .lett (n := 59) (new1 _ _ _) (by rw [hb]; simp) ?_
    refine (ev_call T hm mo d (st1 := ⟨st.ms ++ [th0 (nm k)], st.cnt⟩) (one (n := 49) (.nam ?_)) (at1 _) (by show cx.opn + c ≤ 40; omega) (by show st.cnt + c ≤ 1000; omega)).le (by omega)
    show lkB "x" (cx.bd ++ [((("x" : Str)), thV st.ms.length)]) = _
    rw [hb]; simp [lkB]
  | 2, _ =>
    show Ev C 60 _ cx st _ ⟨st.ms ++ ([th0 (nm 0)] ++ [th0 (nm k)]), st.cnt + c + 1⟩
    rw [← List.append_assoc]
    have new2 : Ev C 58 (.tm (.new (nm k) [])) cx ⟨st.ms ++ [th0 (nm 0)], st.cnt⟩ (.val (thV (st.ms ++ [th0 (nm 0)]).length)) ⟨st.ms ++ [th0 (nm 0)] ++ [th0 (nm k)], st.cnt⟩ := ev_new0 (st := ⟨st.ms ++ [th0 (nm 0)], st.cnt⟩) (by simp; omega)
    refine .cal (y := hsOf nm 0 (none, some (false, 1))) (z := hsOf nm 0 (none, some (false, 1))) (i := 0) (m := st.ms.length) (vs := [thV (st.ms ++ [th0 (nm 0)]).length]) (held := .tup []) (es := []) (by simp) (.cons (n := 59) (new1 _ _ _) (.cons (n := 59) new2.up .nil)) ?_ (.top m0 rfl) (by simp) ?_ ?_
    · show (st.ms ++ [th0 (nm 0)] ++ [th0 (nm k)])[st.ms.length]? = _
      rw [List.append_assoc]; exact at_app (i := 0) rfl
    · show (match wix "ask" (fstW nm 0 ++ lstW (some (false, 1))) with | some i => some (hsOf nm 0 (none, some (false, 1)), i) | none => fnd "ask" []) = _
      rw [wix_ask]
    · refine .go (n := 59) (wd := askW nm) (by rw [mo]; show st.cnt ≠ 1000; omega) (by rw [ho]; decide) m0 rfl (by simp) ?_
      have r := ev_call T hm mo d (t := .nam "x") (m := (st.ms ++ [th0 (nm 0)]).length) (cx := ⟨thV st.ms.length, .str (nm 0), [("x", thV (st.ms ++ [th0 (nm 0)]).length)], cx.opn + 1⟩) (st := ⟨st.ms ++ [th0 (nm 0)] ++ [th0 (nm k)], st.cnt + 1⟩) (st1 := ⟨st.ms ++ [th0 (nm 0)] ++ [th0 (nm k)], st.cnt + 1⟩) (one (n := 49) (.nam (by simp [lkB]))) (at_app (i := 0) rfl) (by show cx.opn + 1 + c ≤ 40; omega) (by show st.cnt + 1 + c ≤ 1000; omega)
      rw [show st.cnt + c + 1 = st.cnt + 1 + c by omega]
      exact r.le (by omega)
  | 3, _ =>
    show Ev C 60 _ cx st _ ⟨st.ms ++ [th0 (nm k)], st.cnt + c + 1⟩
    refine .cal (y := hsOf nm k nd) (m := st.ms.length) (vs := []) (held := .tup []) (es := es) (by simp) (one (n := 59) (new1 _ _ _)) (at1 _) a2 (by omega) a5 ?_
    refine .go (n := 59) (wd := meW) (by rw [mo]; show st.cnt ≠ 1000; omega) (by rw [ho]; decide) m0 rfl (by simp) ?_
    have r := ev_call T hm mo d (t := .slf) (m := st.ms.length) (cx := ⟨thV st.ms.length, .str (nm 0), [], cx.opn + 1⟩) (st := ⟨st.ms ++ [th0 (nm k)], st.cnt + 1⟩) (st1 := ⟨st.ms ++ [th0 (nm k)], st.cnt + 1⟩) (one (n := 49) .slf) (at1 _) (by show cx.opn + 1 + c ≤ 40; omega) (by show st.cnt + 1 + c ≤ 1000; omega)
    rw [show st.cnt + c + 1 = st.cnt + 1 + c by omega]
    exact r.le (by omega)
  | 4, _ =>
    have hk : ∀ s, mdOf st.ms.length [(s, none), ("keeper", some (-1))] = [th0 s] ++ [.tup [.str "keeper", .tup [thV st.ms.length]]] := fun s => by
      show [_, PV.tup [.str "keeper", .tup [.tup [.str "thing", .int (((st.ms.length + 1 : Nat) : Int) + -1)]]]] = _
      rw [show ((st.ms.length + 1 : Nat) : Int) + -1 = (st.ms.length : Nat) by omega]; rfl
    show Ev C 60 _ cx st _ ⟨st.ms ++ mdOf st.ms.length [(nm k, none), ("keeper", some (-1))], st.cnt + c + 0⟩
    rw [hk, Int.add_zero, ← List.append_assoc]
    have lk : (st.ms ++ [th0 (nm k)]).length = st.ms.length + 1 := by simp
    have S : Ev C 50 (.tms [.fld (.new "keeper" [.new (nm k) []]) "held"]) cx st (.vals [thV st.ms.length]) ⟨st.ms ++ [th0 (nm k)] ++ [.tup [.str "keeper", .tup [thV st.ms.length]]], st.cnt⟩ := by
      refine one (n := 49) (.fld (n := 48) (m := (st.ms ++ [th0 (nm k)]).length) (y := keeper nm) (held := [thV st.ms.length]) (i := 0) (es := []) (.new (by simp) (one (n := 47) (new1 _ _ _)) (by show (st.ms ++ [th0 (nm k)]).length < _; omega)) (at_app (i := 0) rfl) chk (by simp) (by simp [flds, keeper]) ?_ rfl)
      simp [flds, keeper, plc]
    have r := ev_call T hm mo d S (by show (st.ms ++ [th0 (nm k)] ++ _)[st.ms.length]? = _; rw [List.append_assoc]; exact at_app (i := 0) rfl) (by omega) (by show st.cnt + c ≤ 1000; omega)
    exact r.le (by omega)
  | 5, _ =>
    have hk : ∀ s u, mdOf st.ms.length [(s, none), ("keeper", some 1), (u, none)] = [th0 s] ++ [.tup [.str "keeper", .tup [thV (st.ms.length + 2)]]] ++ [th0 u] := fun s u => by
      show [_, PV.tup [.str "keeper", .tup [.tup [.str "thing", .int (((st.ms.length + 1 : Nat) : Int) + 1)]]], _] = _
      rw [show ((st.ms.length + 1 : Nat) : Int) + 1 = ((st.ms.length + 2 : Nat) : Int) by omega]; rfl
    show Ev C 60 _ cx st _ ⟨st.ms ++ mdOf st.ms.length [(nm 0, none), ("keeper", some 1), (nm k, none)], st.cnt + c + 0⟩
    rw [hk, Int.add_zero, ← List.append_assoc, ← List.append_assoc]
    have l1 : (st.ms ++ [th0 (nm 0)]).length = st.ms.length + 1 := by simp
    have l3 : (st.ms ++ [th0 (nm 0)] ++ [PV.tup [.str "keeper", .tup [thV st.ms.length]]]).length = st.ms.length + 2 := by simp
    have S : Ev C 50 (.tms [.sett (.new "keeper" [.new (nm 0) []]) "held" (.new (nm k) [])]) cx st (.vals [thV (st.ms.length + 2)]) ⟨st.ms ++ [th0 (nm 0)] ++ [.tup [.str "keeper", .tup [thV (st.ms.length + 2)]]] ++ [th0 (nm k)], st.cnt⟩ := by
      have n1 : Ev C 46 (.tm (.new "keeper" [.new (nm 0) []])) cx st (.val (thV (st.ms.length + 1))) ⟨st.ms ++ [th0 (nm 0)] ++ [.tup [.str "keeper", .tup [thV st.ms.length]]], st.cnt⟩ := by
        have r := Ev.new (C := C) (n := 46) (c := "keeper") (ts := [.new (nm 0) []]) (cx := cx) (by simp) (one (n := 45) (new1 (nm 0) _ _)) (by show (st.ms ++ [th0 (nm 0)]).length < _; omega)
        rw [show (Sta.mk (st.ms ++ [th0 (nm 0)]) st.cnt).ms.length = st.ms.length + 1 from l1] at r
        exact r
      have n2 : Ev C 46 (.tm (.new (nm k) [])) cx ⟨st.ms ++ [th0 (nm 0)] ++ [.tup [.str "keeper", .tup [thV st.ms.length]]], st.cnt⟩ (.val (thV (st.ms.length + 2))) ⟨st.ms ++ [th0 (nm 0)] ++ [.tup [.str "keeper", .tup [thV st.ms.length]]] ++ [th0 (nm k)], st.cnt⟩ := by
        have r := ev_new0 (C := C) (n := 46) (cx := cx) (s := nm k) (st := ⟨st.ms ++ [th0 (nm 0)] ++ [.tup [.str "keeper", .tup [thV st.ms.length]]], st.cnt⟩) (by show (st.ms ++ [th0 (nm 0)] ++ [PV.tup [.str "keeper", .tup [thV st.ms.length]]]).length < _; omega)
        rw [show (Sta.mk (st.ms ++ [th0 (nm 0)] ++ [PV.tup [.str "keeper", .tup [thV st.ms.length]]]) st.cnt).ms.length = st.ms.length + 2 from l3] at r
        exact r
      have r := Ev.sett (C := C) (n := 48) (t := .new "keeper" [.new (nm 0) []]) (b := .new (nm k) []) (f := "held") (m := st.ms.length + 1) (i := 0) (y := keeper nm) (es := []) (held := [thV st.ms.length]) (v := thV (st.ms.length + 2)) (cx := cx) (st := st) (.cons (n := 47) n1.up (.cons (n := 47) n2.up .nil)) ?_ chk (by simp) (by simp [flds, keeper]) ?_ (by simp) (by simp)
      · have e : (st.ms ++ [th0 (nm 0)] ++ [PV.tup [.str "keeper", .tup [thV st.ms.length]]] ++ [th0 (nm k)]).set (st.ms.length + 1) (.tup [.str (keeper nm).nm, .tup ([thV st.ms.length].set 0 (thV (st.ms.length + 2)))]) = st.ms ++ [th0 (nm 0)] ++ [.tup [.str "keeper", .tup [thV (st.ms.length + 2)]]] ++ [th0 (nm k)] := by
          rw [List.append_assoc (st.ms ++ [th0 (nm 0)]), List.set_append_right _ _ (by omega), l1, Nat.sub_self, List.append_assoc (st.ms ++ [th0 (nm 0)])]; rfl
        rw [show (Sta.mk (st.ms ++ [th0 (nm 0)] ++ [PV.tup [.str "keeper", .tup [thV st.ms.length]]] ++ [th0 (nm k)]) st.cnt).ms = st.ms ++ [th0 (nm 0)] ++ [PV.tup [.str "keeper", .tup [thV st.ms.length]]] ++ [th0 (nm k)] from rfl, e] at r
        exact one (n := 49) r.up
      · show (st.ms ++ [th0 (nm 0)] ++ [PV.tup [.str "keeper", .tup [thV st.ms.length]]] ++ [th0 (nm k)])[st.ms.length + 1]? = _
        have z := at_app (xs := st.ms ++ [th0 (nm 0)]) (ys := [PV.tup [.str "keeper", .tup [thV st.ms.length]]] ++ [th0 (nm k)]) (i := 0) rfl
        rw [l1, ← List.append_assoc] at z
        exact z
      · simp [flds, keeper, plc]
    have em : (st.ms ++ [th0 (nm 0)] ++ [PV.tup [.str "keeper", .tup [thV (st.ms.length + 2)]]] ++ [th0 (nm k)])[st.ms.length + 2]? = some (th0 (nm k)) := by
      have z := at_app (xs := st.ms ++ [th0 (nm 0)] ++ [PV.tup [.str "keeper", .tup [thV (st.ms.length + 2)]]]) (ys := [th0 (nm k)]) (i := 0) rfl
      rw [show (st.ms ++ [th0 (nm 0)] ++ [PV.tup [.str "keeper", .tup [thV (st.ms.length + 2)]]]).length = st.ms.length + 2 by simp] at z
      exact z
    have r := ev_call T hm mo d (m := st.ms.length + 2) S em (by omega) (by show st.cnt + c ≤ 1000; omega)
    exact r.le (by omega)
/-- one more is asked -/
theorem ev_more {k v c way N t : Nat} {b : Tm} {ms : List PV} {cnt : Nat} (E : Ev C N (.tm b) ⟨.non, .non, [], 0⟩ ⟨[], 0⟩ (.val (.int t)) ⟨ms, cnt⟩) (hN : 60 ≤ N) (ht : t ≤ 1000000000000) (d : Td tr k v c) (hw : way < 6) (hL : ms.length ≤ 100) (hc : cnt + c + 1 ≤ 1000) :
    Ev C (N + 2) (.tm (.two "+" (.two "*" b (.num 100)) (asked nm way k).1)) ⟨.non, .non, [], 0⟩ ⟨[], 0⟩ (.val (.int ((t * 100 + v : Nat)))) ⟨ms ++ mdOf ms.length (asked nm way k).2.1, ((cnt + c + (asked nm way k).2.2 : Nat))⟩ := by
  obtain ⟨b1, b2, b3⟩ := Td.bnd T d
  have l := T.len
  obtain ⟨nd, _, _, _, a1, _⟩ := ev_w T hm mo d
  have l2 := (List.getElem?_eq_some_iff.mp a1).1
  have hm1 : tw "*" (t : Nat) 100 = (.int ((t : Nat) * 100 : Int), true) := tw_mul ⟨by omega, by omega⟩
  have hm2 : tw "+" ((t : Nat) * 100 : Int) (v : Nat) = (.int ((t : Nat) * 100 + (v : Nat) : Int), true) := tw_add ⟨by omega, by omega⟩
  have r1 := Ev.two (C := C) (n := N + 1) (w := "*") (a := b) (b := .num 100) (x := t) (y := 100) (cx := ⟨.non, .non, [], 0⟩) (.inr (.inr (.inl rfl))) (.cons E (.cons (n := N) .num .nil)) ⟨by omega, by omega⟩ ⟨by omega, by omega⟩ (by rw [hm1])
  rw [hm1] at r1
  have r2 := ev_asked T hm mo d hw (cx := ⟨.non, .non, [], 0⟩) (st := ⟨ms, cnt⟩) rfl rfl hL (by show (cnt : Int) + c + 1 ≤ 1000; omega)
  have r := Ev.two (C := C) (n := N + 2) (w := "+") (a := .two "*" b (.num 100)) (b := (asked nm way k).1) (cx := ⟨.non, .non, [], 0⟩) (.inl rfl) (.cons (n := N + 1) r1 (.cons (n := N + 1) (r2.le (by omega)) .nil)) ⟨by omega, by omega⟩ ⟨by omega, by omega⟩ (by rw [hm2])
  rw [hm2] at r
  rw [show ((t * 100 + v : Nat) : Int) = (t : Nat) * 100 + (v : Nat) by omega, show ((cnt + c + (asked nm way k).2.2 : Nat) : Int) = (cnt : Int) + c + (asked nm way k).2.2 by omega]
  exact r
end
end Py

set_option Elab.async false
set_option linter.all false
set_option maxRecDepth 100000
set_option maxHeartbeats 8000000
/-! The law's own parts: cells, trees, what they tell. -/
namespace Py
open PySem
theorem frl_got {h : PH} {a : Nat} {xs : List PV} (e : h[a]? = some (.frl xs)) : lstOf h (.ref a) = some xs := by unfold lstOf; dsimp only; rw [e]
def NdV (x : Nd) : PV := .tup [match x.1 with | none => .non | some e => .int (e : Nat), match x.2 with | none => .non | some (b, n) => .tup [.bl b, .int (n : Nat)]]
theorem Tr.one : Tr [(none, some (false, 1))] := by
  refine ⟨rfl, fun k e p h n => ?_, fun k e b n h => ?_, by simp⟩
  · cases k with
    | zero => exact absurd rfl n
    | succ k => cases h
  · cases k with
    | zero => cases h; omega
    | succ k => cases h
theorem Tr.snoc {tr : List Nd} {e : Nat} {p : Option (Bool × Nat)} (T : Tr tr) (he : e < tr.length) (hp : ∀ b n, p = some (b, n) → n ≤ 4) (hl : tr.length < 11) : Tr (tr ++ [(some e, p)]) := by
  have sp : ∀ {k : Nat} {x : Nd}, (tr ++ [(some e, p)])[k]? = some x → tr[k]? = some x ∨ (k = tr.length ∧ x = (some e, p)) := fun {k x} h => by
    rcases Nat.lt_trichotomy k tr.length with z | z | z
    · rw [List.getElem?_append_left z] at h; exact .inl h
    · subst z
      rw [List.getElem?_append_right (Nat.le_refl _), Nat.sub_self] at h
      exact .inr ⟨rfl, (Option.some.inj h).symm⟩
    · rw [List.getElem?_eq_none (by simp; omega)] at h; cases h
  refine ⟨?_, fun k e' p' h n => ?_, fun k e' b n h => ?_, by simp; omega⟩
  · rw [List.getElem?_append_left (by omega)]; exact T.zero
  · rcases sp h with h | ⟨z, h⟩
    · exact T.up k e' p' h n
    · obtain ⟨rfl, rfl⟩ := Prod.mk.inj h; exact ⟨e, rfl, by omega⟩
  · rcases sp h with h | ⟨z, h⟩
    · exact T.sm k e' b n h
    · obtain ⟨rfl, h2⟩ := Prod.mk.inj h; exact hp b n h2.symm
section
variable {k : Nat} {h : PH} {Q : KQ} {X : KX}
theorem s_cell {a : Nat} {j : Int} {ns : List Int} (hs : lstOf h (.ref a) = some (ns.map PV.int)) (h0 : 0 ≤ j) (q : ∀ c, Q (.int c) h) : callS sgT (k + 1) (.fn n__law_cell_at) [.ref a, .int j] h Q X := by
  refine xFn (d := d__law_cell_at) rfl rfl ?_
  obtain ⟨i, rfl⟩ := Int.eq_ofNat_of_zero_le h0
  by_cases hj : (i : Int) < ((ns.map PV.int).length : Int)
  · refine sIf (r := true) (tC (xV (i := 1) rfl (xBf (a1 (xV (i := 0) rfl ⟨_, hs, ?_⟩)))))
    refine ⟨decide_eq_true hj, sR (xIdx (xV (i := 0) rfl (xV (i := 1) rfl ?_)))⟩
    have hi : i < ns.length := by simpa using hj
    exact ⟨_, _, hs, by rw [atI_nat, List.getElem?_map, List.getElem?_eq_getElem hi]; rfl, q _⟩
  · refine sIf (r := false) (tC (xV (i := 1) rfl (xBf (a1 (xV (i := 0) rfl ⟨_, hs, ?_⟩)))))
    exact ⟨decide_eq_false hj, sEnd (sR (xI (q _)))⟩
theorem iR1 {l : Loc} {a : E} {R : KI} {j : Int} (b : -(2 ^ 62) ≤ j ∧ j < 2 ^ 62) (q : evE sgT (callS sgT k) X a l h fun x h1 => x = .int j ∧ R (rangeL 0 j.toNat) (fun _ => True) h1) : evI sgT (callS sgT k) X (.rng1 a) l h R := by
  show evE sgT (callS sgT k) X a l h _
  exact mE_ q fun x h1 z => ⟨j, z.1, b, z.2⟩
theorem iR2 {l : Loc} {a c : E} {R : KI} {i j : Int} (b : -(2 ^ 62) ≤ i ∧ i < 2 ^ 62 ∧ -(2 ^ 62) ≤ j ∧ j < 2 ^ 62) (q : evE sgT (callS sgT k) X a l h fun x h1 => evE sgT (callS sgT k) X c l h1 fun y h2 => x = .int i ∧ y = .int j ∧ R (rangeL i (j - i).toNat) (fun _ => True) h2) : evI sgT (callS sgT k) X (.rng2 a c) l h R := by
  show evE sgT (callS sgT k) X a l h _
  exact mE_ q fun x h1 z => mE_ z fun y h2 z => ⟨i, j, z.1, z.2.1, b, z.2.2⟩
theorem iAdd {i j : Int} (q : Q (.int (i + j)) h) : binV .add (.int i) (.int j) h Q := q
theorem iSub {i j : Int} (q : Q (.int (i - j)) h) : binV .sub (.int i) (.int j) h Q := q
theorem iMul {i j : Int} (ok : mulOk i j) (q : Q (.int (i * j)) h) : binV .mul (.int i) (.int j) h Q := ⟨ok, q⟩
theorem iDiv {i j : Int} (n : j ≠ 0) (l : j.natAbs.log2 < 9000) (q : Q (.int (i.fdiv j)) h) : binV .fdiv (.int i) (.int j) h Q := ⟨n, l, q⟩
theorem iMod {i j : Int} (n : j ≠ 0) (q : Q (.int (i.fmod j)) h) : binV .mod (.int i) (.int j) h Q := ⟨n, q⟩
theorem s_mixed {c : Int} {j : Int} (h0 : 0 ≤ j) (h1 : j < 1000000) (q : ∀ m, 0 ≤ m → m < 2147483647 → Q (.int m) h) : callS sgT (k + 1) (.fn n__law_mixed) [.int c, .int j] h Q X := by
  refine xFn (d := d__law_mixed) rfl rfl (sR ?_)
  have b : ∀ x : Int, 0 ≤ x.fmod 2147483647 ∧ x.fmod 2147483647 < 2147483647 := fun x => by rw [Int.fmod_eq_emod_of_nonneg _ (by omega)]; omega
  refine xBin (xBin (xBin (xBin (xBin (xV (i := 0) rfl (xI (iMul (.inr (by omega)) ?_)))))))
  refine xBin (xBin (xI (xV (i := 1) rfl (iMul (.inl (by omega)) (xV (i := 1) rfl (iMul (.inr (by omega)) (iAdd ?_)))))))
  refine xBin (xI (xV (i := 1) rfl (iMul (.inl (by omega)) (iAdd (xI (iAdd (xI (iMod (by omega) ?_))))))))
  exact q _ (b _).1 (b _).2
/-- the tree -/
theorem s_tree {a : Nat} {ns : List Int} {many : Nat} (hs : h[a]? = some (.frl (ns.map PV.int))) (h2 : 2 ≤ many) (h11 : many ≤ 11) (q : ∀ h' tr f, Gr h h' → Tr tr → tr.length = many → h'[f]? = some (.lst (tr.map NdV)) → h.length ≤ f → Q (.ref f) h') :
    callS sgT (k + 2) (.fn n__law_tree) [.ref a, .int (many : Nat)] h Q X := by
  refine xFn (d := d__law_tree) rfl rfl ?_
  refine sAs (by show 2 < 7; decide) (xLst (a1 (xTup (aC (xN (a1 (xTup (aC (xB (a1 (xI ⟨lz2, lz2, lz1, fun h1 N => ?_⟩)))))))))))
  refine sFor (iR2 (i := 1) (j := (many : Nat)) ⟨by omega, by omega, by omega, by omega⟩ (xI (xV (i := 1) rfl ⟨rfl, rfl, ?_⟩)))
  refine iter_invN (fun i l' h' => (∃ b c d e, l' = [some (.ref a), some (.int (many : Nat)), some (.ref h.length), b, c, d, e]) ∧ Gr h h' ∧ ∃ tr, Tr tr ∧ tr.length = i + 1 ∧ h'[h.length]? = some (.lst (tr.map NdV))) (fun _ _ _ _ => trivial) _ 0 (fun i x ex l' h' K iv hK => ?_) (fun l' h' iv => ?_) _ h1 ⟨⟨_, _, _, _, rfl⟩, N.gr, _, Tr.one, rfl, N.at_⟩
  · obtain ⟨⟨b, c, d, e, rfl⟩, g, tr, T, ln, et⟩ := iv
    unfold rangeL at ex
    rw [List.getElem?_map] at ex
    obtain ⟨j, ej, rfl⟩ := Option.map_eq_some_iff.mp ex
    have hi := List.getElem?_eq_some_iff.mp ej
    obtain ⟨hi1, hi2⟩ := hi
    rw [List.getElem_range] at hi2
    subst hi2
    rw [List.length_range] at hi1
    have hs' := frl_got (g.get hs)
    refine ⟨by show 3 < 7; decide, ?_⟩
    refine sAs (by show 4 < 7; decide) (xCall (aC (xCall (aC (xV (i := 0) rfl (a1 ?_))))))
    refine xBin (xI (xV (i := 3) rfl (iAdd ?_)))
    refine s_cell (k := k) hs' (by omega) fun cc => ?_
    refine a1 (xV (i := 3) rfl ?_)
    refine s_mixed (k := k) (by omega) (by omega) fun m m0 m1 => ?_
    have r3 : m.fmod 3 = 0 ∨ m.fmod 3 = 1 ∨ m.fmod 3 = 2 := by rw [Int.fmod_eq_emod_of_nonneg _ (by omega)]; omega
    have w2 : (m.fmod 3).fdiv 2 = 0 ∨ (m.fmod 3).fdiv 2 = 1 := by rcases r3 with e | e | e <;> rw [e] <;> decide
    refine sAs (by show 5 < 7; decide) (xIdx (xLst (aC (xBin (xV (i := 3) rfl (xI (iSub ?_)))))))
    refine a1 (xBin (xBin (xV (i := 4) rfl (xI (iDiv (by decide) (by decide) ?_)))))
    refine xV (i := 3) rfl (iMod (by omega) ⟨lz2, fun h2 N2 => ?_⟩)
    refine xBin (xBin (xV (i := 4) rfl (xI (iMod (by decide) ?_))))
    refine xI (iDiv (by decide) (by decide) ?_)
    obtain ⟨e, he, ee⟩ : ∃ e : Nat, e < i + 1 ∧ atI [PV.int (1 + (i : Nat) - 1), .int ((m.fdiv 3).fmod (1 + (i : Nat)))] ((m.fmod 3).fdiv 2) = some (.int (e : Nat)) := by
      rcases w2 with z | z <;> rw [z]
      · exact ⟨i, by omega, by rw [show (1 + (i : Nat) - 1 : Int) = (i : Nat) by omega]; rfl⟩
      · have b1 : 0 ≤ (m.fdiv 3).fmod (1 + (i : Nat)) := by rw [Int.fmod_eq_emod_of_nonneg _ (by omega)]; exact Int.emod_nonneg _ (by omega)
        have b2 : (m.fdiv 3).fmod (1 + (i : Nat)) < 1 + (i : Nat) := by rw [Int.fmod_eq_emod_of_nonneg _ (by omega)]; exact Int.emod_lt_of_pos _ (by omega)
        exact ⟨((m.fdiv 3).fmod (1 + (i : Nat))).toNat, by omega, by rw [Int.toNat_of_nonneg b1]; rfl⟩
    refine ⟨_, _, lst_got N2.at_, ee, ?_⟩
    have fin : ∀ (p : Option (Bool × Nat)), (∀ b n, p = some (b, n) → n ≤ 4) → evB sgT (callS sgT (k + 1)) (.cons (.exp (.bm .append (.var 2) (.cons (.tup (.cons (.var 5) (.cons (.var 6) .nil))) .nil))) .nil) [some (.ref a), some (.int (many : Nat)), some (.ref h.length), some (.int (1 + (i : Nat))), some (.int m), some (.int (e : Nat)), some (match p with | none => .non | some (b, n) => .tup [.bl b, .int (n : Nat)])] h2 ⟨K, Q, K, fun x _ h' => X x h'⟩ := fun p hp => by
      have et2 := N2.get et
      refine sE_ (xBm (xV (i := 2) rfl ⟨ty_get et2, a1 (xTup (aC (xV (i := 5) rfl (a1 (xV (i := 6) rfl ⟨lz2, _, et2, by show _ < 16777216; rw [List.length_map]; omega, ?_⟩)))))⟩))
      have u := Up.of (o := .lst (tr.map NdV ++ [NdV (some e, p)])) et2
      refine sEnd (hK _ _ ⟨⟨_, _, _, _, rfl⟩, Gr.up (Gr.nw g N2) u (Nat.le_refl _), tr ++ [(some e, p)], T.snoc (by omega) hp (by omega), by simp; omega, ?_⟩)
      rw [List.map_append]; exact u.at_
    refine sAs (by show 6 < 7; decide) (xN ?_)
    refine sIf (r := decide (1 < (m.fdiv 100).fmod 5)) (tC (xBin (xBin (xV (i := 4) rfl (xI (iDiv (by decide) (by decide) ?_))))))
    refine xI (iMod (by decide) (xI ⟨rfl, ?_⟩))
    by_cases hb : 1 < (m.fdiv 100).fmod 5
    · rw [decide_eq_true hb]
      refine sAs (by show 6 < 7; decide) (xTup (aC (xCmp (xBin (xBin (xV (i := 4) rfl (xI (iDiv (by decide) (by decide) ?_))))))))
      refine xI (iMod (by decide) (xI (cEqI ?_)))
      refine a1 (xBin (xI (xBin (xBin (xV (i := 4) rfl (xI (iDiv (by decide) (by decide) ?_)))))))
      refine xI (iMod (by decide) (iAdd ⟨lz2, sEnd ?_⟩))
      have b1 : 0 ≤ (m.fdiv 1000).fmod 4 ∧ (m.fdiv 1000).fmod 4 < 4 := by rw [Int.fmod_eq_emod_of_nonneg _ (by omega)]; omega
      have e2 : (1 + (m.fdiv 1000).fmod 4) = ((1 + ((m.fdiv 1000).fmod 4).toNat : Nat) : Int) := by omega
      rw [e2]
      exact fin (some (_, _)) fun b n z => by cases z; omega
    · rw [decide_eq_false hb]
      exact sEnd (fin none fun b n z => by cases z)
  · obtain ⟨⟨b, c, d, e, rfl⟩, g, tr, T, ln, et⟩ := iv
    refine sR (xV (i := 2) rfl (q h' tr _ g T ?_ et (Nat.le_refl _)))
    rw [ln]; unfold rangeL; simp; omega
end
end Py

set_option Elab.async false
set_option linter.all false
set_option maxRecDepth 100000
set_option maxHeartbeats 8000000
/-! The law's own parts: what a tree tells, its houses, what is asked. -/
namespace Py
open PySem
def b_told_rest : B :=
  (.cons (.asg (.tup (.cons (.nm 2) (.cons (.nm 3) .nil))) (.tup (.cons (.idx (.idx (.idx (.var 0) (.var 1)) (.int 1)) (.int 1)) (.cons (.int 1) .nil))))
  (.cons (.ife (.v (.idx (.idx (.idx (.var 0) (.var 1)) (.int 1)) (.int 0))) (.cons (.asg (.nm 4) (.call n__law_told (.cons (.var 0) (.cons (.idx (.idx (.var 0) (.var 1)) (.int 0)) .nil))))
  (.cons (.asg (.tup (.cons (.nm 2) (.cons (.nm 3) .nil))) (.tup (.cons (.bin .add (.var 2) (.idx (.var 4) (.int 0))) (.cons (.bin .add (.var 3) (.idx (.var 4) (.int 1))) .nil))))
  .nil)) .nil)
  (.cons (.ret (.tup (.cons (.var 2) (.cons (.var 3) .nil))))
  .nil)))
theorem rangeL_at {n i : Nat} {x : PV} (e : (rangeL 0 n)[i]? = some x) : i < n ∧ x = .int (i : Nat) := by
  unfold rangeL at e
  rw [List.getElem?_map] at e
  obtain ⟨j, ej, rfl⟩ := Option.map_eq_some_iff.mp e
  obtain ⟨h1, h2⟩ := List.getElem?_eq_some_iff.mp ej
  rw [List.getElem_range] at h2
  subst h2
  exact ⟨by simpa using h1, by rw [Int.zero_add]⟩
theorem rangeL_len {n : Nat} {i : Int} : (rangeL i n).length = n := by unfold rangeL; simp
theorem lz0 : ([] : List PV).length ≤ SZ := by show 0 ≤ 16777216; decide
section
variable {k : Nat} {h : PH} {Q : KQ} {X : KX} {tr : List Nd} {nm : Nat → Str}
theorem told_loop {ta : Nat} (et : h[ta]? = some (.lst (tr.map NdV))) {k v c : Nat} (t : Td tr k v c) : ∀ (n f : Nat) (b d e : Option PV) (Q : KQ) (X : KX), k < n → Q (.tup [.int (v : Nat), .int (c : Nat)]) h →
    whlN (fun l' h' K => evT sgT (callS sgT (f + k)) (fun x h' => X x h') (.cmp .isN (.idx (.idx (.var 0) (.var 1)) (.int 1)) .non) l' h' fun r h1 => if r = true then evB sgT (callS sgT (f + k)) (.cons (.asg (.nm 1) (.idx (.idx (.var 0) (.var 1)) (.int 0))) .nil) l' h1 ⟨K, Q, K, fun x _ h' => X x h'⟩ else evB sgT (callS sgT (f + k)) b_told_rest l' h1 ⟨fun _ h' => Q .non h', Q, fun _ _ => False, fun x _ h' => X x h'⟩) n
      [some (.ref ta), some (.int (k : Nat)), b, d, e] h := by
  have at_ : ∀ {k : Nat} {x : Nd}, tr[k]? = some x → atI (tr.map NdV) (k : Nat) = some (NdV x) := fun {k x} e => at_thing (by rw [List.getElem?_map, e]; rfl)
  induction t with
  | @none k e v c he hl _ ih =>
    intro n f b d x Q X hn q
    obtain ⟨n, rfl⟩ : ∃ m, n = m + 1 := ⟨n - 1, by omega⟩
    refine tC (xIdx (xIdx (xV (i := 0) rfl (xV (i := 1) rfl ⟨_, _, lst_got et, at_ he, xI ⟨_, rfl, xN (cIsN ?_)⟩⟩))))
    show evB sgT (callS sgT (f + k)) _ _ _ _
    refine sAs (by show 1 < 5; decide) (xIdx (xIdx (xV (i := 0) rfl (xV (i := 1) rfl ⟨_, _, lst_got et, at_ he, xI ⟨_, rfl, sEnd ?_⟩⟩))))
    have r := ih n (f + (k - e)) b d x Q X (by omega) q
    rw [show f + (k - e) + e = f + k by omega] at r
    exact r
  | @put k n e he =>
    intro m f b d x Q X hn q
    obtain ⟨m, rfl⟩ : ∃ j, m = j + 1 := ⟨m - 1, by omega⟩
    refine tC (xIdx (xIdx (xV (i := 0) rfl (xV (i := 1) rfl ⟨_, _, lst_got et, at_ he, xI ⟨_, rfl, xN (cIsN ?_)⟩⟩))))
    show evB sgT (callS sgT (f + k)) b_told_rest _ _ _
    refine sAT (xs := [.int (n : Nat), .int 1]) (xTup (aC (xIdx (xIdx (xIdx (xV (i := 0) rfl (xV (i := 1) rfl ⟨_, _, lst_got et, at_ he, xI ⟨_, rfl, xI ⟨_, rfl, a1 (xI ⟨lz2, rfl, rfl, ?_⟩)⟩⟩⟩)))))))
    refine ⟨_, _, rfl, ⟨by show 2 < 5; decide, _, _, rfl, ⟨by show 3 < 5; decide, rfl, ?_⟩⟩⟩
    refine sIf (r := false) (tV (xIdx (xIdx (xIdx (xV (i := 0) rfl (xV (i := 1) rfl ⟨_, _, lst_got et, at_ he, xI ⟨_, rfl, xI ⟨_, rfl, rfl, rfl, ?_⟩⟩⟩))))))
    exact sEnd (sR (xTup (aC (xV (i := 2) rfl (a1 (xV (i := 3) rfl ⟨lz2, q⟩))))))
  | @more k e n v c he hl _ ih =>
    intro m f b d x Q X hn q
    obtain ⟨m, rfl⟩ : ∃ j, m = j + 1 := ⟨m - 1, by omega⟩
    refine tC (xIdx (xIdx (xV (i := 0) rfl (xV (i := 1) rfl ⟨_, _, lst_got et, at_ he, xI ⟨_, rfl, xN (cIsN ?_)⟩⟩))))
    show evB sgT (callS sgT (f + k)) b_told_rest _ _ _
    refine sAT (xs := [.int (n : Nat), .int 1]) (xTup (aC (xIdx (xIdx (xIdx (xV (i := 0) rfl (xV (i := 1) rfl ⟨_, _, lst_got et, at_ he, xI ⟨_, rfl, xI ⟨_, rfl, a1 (xI ⟨lz2, rfl, rfl, ?_⟩)⟩⟩⟩)))))))
    refine ⟨_, _, rfl, ⟨by show 2 < 5; decide, _, _, rfl, ⟨by show 3 < 5; decide, rfl, ?_⟩⟩⟩
    refine sIf (r := true) (tV (xIdx (xIdx (xIdx (xV (i := 0) rfl (xV (i := 1) rfl ⟨_, _, lst_got et, at_ he, xI ⟨_, rfl, xI ⟨_, rfl, rfl, rfl, ?_⟩⟩⟩))))))
    refine sAs (by show 4 < 5; decide) (xCall (aC (xV (i := 0) rfl (a1 (xIdx (xIdx (xV (i := 0) rfl (xV (i := 1) rfl ⟨_, _, lst_got et, at_ he, xI ⟨_, rfl, ?_⟩⟩))))))))
    rw [show f + k = (f + (k - 1 - e)) + e + 1 by omega]
    refine xFn (d := d__law_told) rfl rfl (sWhl (e + 1) (ih (e + 1) (f + (k - 1 - e)) _ _ _ _ _ (by omega) ?_))
    rw [show (f + (k - 1 - e)) + e + 1 = f + k by omega]
    refine sAT (xs := [.int (n + v : Nat), .int (c + 1 : Nat)]) (xTup (aC (xBin (xV (i := 2) rfl (xIdx (xV (i := 4) rfl (xI ⟨_, rfl, iAdd (a1 (xBin (xV (i := 3) rfl (xIdx (xV (i := 4) rfl (xI ⟨_, rfl, iAdd ⟨lz2, ?_, rfl, ?_⟩⟩))))))⟩)))))))
    · rw [show ((n + v : Nat) : Int) = (n : Nat) + (v : Nat) by omega, show ((c + 1 : Nat) : Int) = 1 + (c : Nat) by omega]; rfl
    refine ⟨_, _, rfl, ⟨by show 2 < 5; decide, _, _, rfl, ⟨by show 3 < 5; decide, rfl, sEnd ?_⟩⟩⟩
    exact sR (xTup (aC (xV (i := 2) rfl (a1 (xV (i := 3) rfl ⟨lz2, q⟩)))))
theorem s_told {ta : Nat} (et : h[ta]? = some (.lst (tr.map NdV))) {j v c : Nat} (t : Td tr j v c) (q : Q (.tup [.int (v : Nat), .int (c : Nat)]) h) : callS sgT (k + j + 1) (.fn n__law_told) [.ref ta, .int (j : Nat)] h Q X :=
  xFn (d := d__law_told) rfl rfl (sWhl (j + 1) (told_loop et t (j + 1) k _ _ _ _ _ (by omega) q))
def nmsV (nm : Nat → Str) (many : Nat) : List PV := (List.range many).map fun k => .str (nm k)
theorem nms_at {many i : Nat} (hi : i < many) : atI (nmsV nm many) (i : Nat) = some (.str (nm i)) := at_thing (by unfold nmsV; rw [List.getElem?_map, List.getElem?_range hi]; rfl)
end
end Py

set_option Elab.async false
set_option linter.all false
set_option maxRecDepth 100000
set_option maxHeartbeats 8000000
/-! The law's own parts: its houses. -/
namespace Py
open PySem
section
variable {k : Nat} {h : PH} {Q : KQ} {X : KX} {tr : List Nd} {nm : Nat → Str}
theorem lens_ws {i : Nat} {p : Option (Bool × Nat)} : (fstW nm i ++ lstW p).length ≤ 3 := by
  by_cases z : i = 0 <;> rcases p with _ | ⟨b, n⟩ <;> simp [fstW, lstW, z]
theorem s_houses {ta na many : Nat} (T : Tr tr) (lt : tr.length = many) (et : h[ta]? = some (.lst (tr.map NdV))) (en : h[na]? = some (.lst (nmsV nm many))) (h1m : 1 ≤ many)
    (q : ∀ h' a, Gr h h' → h'[a]? = some (.lst ((hsAll nm tr).map plH)) → Q (.ref a) h') : callS sgT (k + 1) (.fn n__law_houses) [.ref ta, .ref na] h Q X := by
  have l11 := T.len
  refine xFn (d := d__law_houses) rfl rfl ?_
  refine sAs (by show 2 < 9; decide) (xTup (aC (xS (aC (xTup (a1 (xTup (aC (xS (a1 (xIdx (xV (i := 1) rfl (xI ⟨_, _, lst_got en, nms_at (i := 0) (by omega), ?_⟩)))))))))))))
  refine ⟨lz2, lz1, ?_⟩
  refine aC (xS (a1 (xTup (aC (xS (aC (xTup (aC (xS (a1 (xS ⟨lz2, ?_⟩)))))))))))
  refine aC (xS (a1 (xTup (aN ⟨lz0, lz4, lz4, ?_⟩))))
  refine sAs (by show 3 < 9; decide) (xTup (aC (xS (aC (xTup (aN ⟨lz0, ?_⟩))))))
  refine aC (xS (a1 (xTup (aC (xS (aC (xTup (a1 (xS ⟨lz1, ?_⟩)))))))))
  refine aC (xS (a1 (xTup (aN ⟨lz0, lz4, lz4, ?_⟩))))
  refine sAs (by show 4 < 9; decide) (xLst (aN ⟨lz0, fun h1 N => ?_⟩))
  refine sFor (iR1 (j := (many : Nat)) ⟨by omega, by omega⟩ (xBf (a1 (xV (i := 0) rfl ⟨_, lst_got (N.get et), by rw [List.length_map, lt], ?_⟩))))
  rw [Int.toNat_natCast]
  refine iter_invN (fun i l' h' => (∃ b c d e, l' = [some (.ref ta), some (.ref na), some (plW (askW nm)), some (plW meW), some (.ref h.length), b, c, d, e]) ∧ Gr h h' ∧ h'[h.length]? = some (.lst (((tr.mapIdx (hsOf nm)).take i).map plH))) (fun _ _ _ _ => trivial) _ 0 (fun i x ex l' h' K iv hK => ?_) (fun l' h' iv => ?_) _ h1 ⟨⟨_, _, _, _, rfl⟩, N.gr, N.at_⟩
  · obtain ⟨⟨b, c, d, e, rfl⟩, g, ef⟩ := iv
    obtain ⟨hi, rfl⟩ := rangeL_at ex
    obtain ⟨nd, en2⟩ : ∃ x, tr[i]? = some x := ⟨_, List.getElem?_eq_getElem (by omega)⟩
    have tat : ∀ {H : PH}, Gr h H → ∀ R : KQ, R (NdV nd) H → idxV (.ref ta) (.int (i : Nat)) H R := fun gH R r => ⟨_, _, lst_got (gH.get et), at_thing (by rw [List.getElem?_map, en2]; rfl), r⟩
    have nat : ∀ {H : PH} {j : Nat}, Gr h H → j < many → ∀ R : KQ, R (.str (nm j)) H → idxV (.ref na) (.int (j : Nat)) H R := fun gH hj R r => ⟨_, _, lst_got (gH.get en), nms_at hj, r⟩
    refine ⟨by show 5 < 9; decide, ?_⟩
    refine sAs (by show 6 < 9; decide) (xBin (xLst (aC (xV (i := 2) rfl (a1 (xV (i := 3) rfl ⟨lz2, fun h2 N2 => ?_⟩))))))
    refine xBf (a1 (xCmp (xV (i := 5) rfl (xI (cEqI ?_)))))
    have efl : ∀ z : Bool, z = decide ((i : Int) = 0) → (List.replicate ((if z = true then 1 else 0 : Int)).toNat [plW (askW nm), plW meW]).flatten = (fstW nm i).map plW := fun z hz => by
      by_cases z0 : i = 0
      · have : z = true := by rw [hz]; simp [z0]
        rw [this, z0]; rfl
      · have : z = false := by rw [hz]; simp; omega
        rw [this]; simp [fstW, z0]
    refine ⟨_, N2.at_, ?_, ?_, ?_, ?_⟩
    · split <;> decide
    · split <;> decide
    · split <;> first | exact (by decide : 2 * (1 : Int).toNat ≤ 16777216) | exact (by decide : 2 * (0 : Int).toNat ≤ 16777216)
    rw [efl _ rfl]
    have N3 := Nw.of (h := h2) (o := .lst ((fstW nm i).map plW))
    generalize h2 ++ [PO.lst ((fstW nm i).map plW)] = h3 at N3 ⊢
    have g3 : Gr h h3 := Gr.nw (Gr.nw g N2) N3
    have g13 : Gr h' h3 := Gr.nw N2.gr N3
    -- what comes at last
    have fin : ∀ (H : PH) (a6 : Nat) (x7 : Option PV), Gr h3 H → H[a6]? = some (.lst ((fstW nm i ++ lstW nd.2).map plW)) → evB sgT (callS sgT k) (.cons (.asg (.nm 8) .non) (.cons (.ife (.cmp .gt (.var 5) (.int 0)) (.cons (.asg (.nm 8) (.idx (.var 1) (.idx (.idx (.var 0) (.var 5)) (.int 0)))) .nil) .nil) (.cons (.exp (.bm .append (.var 4) (.cons (.tup (.cons (.idx (.var 1) (.var 5)) (.cons (.var 8) (.cons (.tup .nil) (.cons (.bf .tuple1 (.cons (.var 6) .nil)) .nil))))) .nil))) .nil)))
        [some (.ref ta), some (.ref na), some (plW (askW nm)), some (plW meW), some (.ref h.length), some (.int (i : Nat)), some (.ref a6), x7, e] H ⟨K, Q, K, fun x _ h' => X x h'⟩ := fun H a6 x7 gH e6 => by
      have gh : Gr h H := g3.trans gH
      have ef2 := Gr.get (g13.trans gH) ef
      have last : ∀ (o : Option Nat), o = nd.1 → evB sgT (callS sgT k) (.cons (.exp (.bm .append (.var 4) (.cons (.tup (.cons (.idx (.var 1) (.var 5)) (.cons (.var 8) (.cons (.tup .nil) (.cons (.bf .tuple1 (.cons (.var 6) .nil)) .nil))))) .nil))) .nil)
          [some (.ref ta), some (.ref na), some (plW (askW nm)), some (plW meW), some (.ref h.length), some (.int (i : Nat)), some (.ref a6), x7, some (elV (o.map nm))] H ⟨K, Q, K, fun x _ h' => X x h'⟩ := fun o eo => by
        subst eo
        refine sE_ (xBm (xV (i := 4) rfl ⟨ty_get ef2, a1 (xTup (aC (xIdx (xV (i := 1) rfl (xV (i := 5) rfl (nat gh hi _ ?_))))))⟩))
        refine aC (xV (i := 8) rfl (aC (xTup (aN ⟨lz0, a1 (xBf (a1 (xV (i := 6) rfl ⟨_, lst_got e6, lz4, _, ef2, ?_, ?_⟩)))⟩))))
        · show _ < 16777216
          rw [List.length_map, List.length_take, List.length_mapIdx]; omega
        have u := Up.of (o := .lst (((tr.mapIdx (hsOf nm)).take (0 + i)).map plH ++ [plH (hsOf nm i nd)])) ef2
        refine sEnd (hK _ _ ⟨⟨_, _, _, _, rfl⟩, Gr.up gh u (Nat.le_refl _), ?_⟩)
        have em : (tr.mapIdx (hsOf nm))[i]? = some (hsOf nm i nd) := by rw [List.getElem?_mapIdx, en2]; rfl
        rw [show (tr.mapIdx (hsOf nm)).take (0 + i + 1) = (tr.mapIdx (hsOf nm)).take (0 + i) ++ [hsOf nm i nd] by rw [Nat.zero_add, List.take_succ, em]; rfl, show ∀ L : List Hs, (L ++ [hsOf nm i nd]).map plH = L.map plH ++ [plH (hsOf nm i nd)] from fun L => by rw [List.map_append]; rfl]
        exact u.at_
      refine sAs (by show 8 < 9; decide) (xN ?_)
      refine sIf (r := decide (0 < (i : Int))) (tC (xV (i := 5) rfl (xI ⟨rfl, ?_⟩)))
      by_cases z0 : i = 0
      · have z1 : nd.1 = none := by have z := T.zero; rw [← z0, en2] at z; cases z; rfl
        rw [decide_eq_false (show ¬ 0 < (i : Int) by omega)]
        exact sEnd (last none z1.symm)
      · obtain ⟨p, q2⟩ : ∃ p, nd = (nd.1, p) := ⟨nd.2, rfl⟩
        obtain ⟨e', z1, z2⟩ := T.up i nd.1 nd.2 en2 z0
        rw [decide_eq_true (show 0 < (i : Int) by omega)]
        refine sAs (by show 8 < 9; decide) (xIdx (xV (i := 1) rfl (xIdx (xIdx (xV (i := 0) rfl (xV (i := 5) rfl (tat gh _ (xI ⟨.int (e' : Nat), ?_, nat gh (by omega) _ (sEnd (last (some e') z1.symm))⟩))))))))
        rw [z1]; rfl
    refine sIf (r := nd.2.isSome) (tC (xIdx (xIdx (xV (i := 0) rfl (xV (i := 5) rfl (tat g3 _ (xI ⟨_, rfl, xN (cNtN ?_)⟩)))))))
    cases hp : nd.2 with
    | none =>
      rw [hp] at fin
      refine ⟨rfl, sEnd ?_⟩
      have z := fin h3 h2.length d Stays.refl (by rw [show lstW none = [] from rfl, List.append_nil]; exact N3.at_)
      exact z
    | some bn =>
      obtain ⟨bb, n⟩ := bn
      have ev : NdV nd = .tup [match nd.1 with | none => .non | some e => .int (e : Nat), .tup [.bl bb, .int (n : Nat)]] := by
        unfold NdV
        rw [hp] <;> (cases nd.1 <;> rfl)
      rw [hp] at fin
      rw [ev] at tat
      refine ⟨rfl, ?_⟩
      have add : ∀ (b7 : PV), b7 = pl (bodW bb n) → evB sgT (callS sgT k) (.cons (.asg (.nm 6) (.bin .add (.var 6) (.lst (.cons (.tup (.cons (.str "w") (.cons (.tup .nil) (.cons (.str "number") (.cons (.var 7) .nil))))) .nil)))) .nil)
          [some (.ref ta), some (.ref na), some (plW (askW nm)), some (plW meW), some (.ref h.length), some (.int (i : Nat)), some (.ref h2.length), some b7, e] h3 ⟨fun l' h' => evB sgT (callS sgT k) (.cons (.asg (.nm 8) .non) (.cons (.ife (.cmp .gt (.var 5) (.int 0)) (.cons (.asg (.nm 8) (.idx (.var 1) (.idx (.idx (.var 0) (.var 5)) (.int 0)))) .nil) .nil) (.cons (.exp (.bm .append (.var 4) (.cons (.tup (.cons (.idx (.var 1) (.var 5)) (.cons (.var 8) (.cons (.tup .nil) (.cons (.bf .tuple1 (.cons (.var 6) .nil)) .nil))))) .nil))) .nil))) l' h' ⟨K, Q, K, fun x _ h' => X x h'⟩, Q, K, fun x _ h' => X x h'⟩ := fun b7 e7 => by
        refine sAs (by show 6 < 9; decide) (xBin (xV (i := 6) rfl (xLst (a1 (xTup (aC (xS (aC (xTup (aN ⟨lz0, ?_⟩))))))))))
        refine aC (xS (a1 (xV (i := 7) rfl ⟨lz4, lz1, fun h4 N4 => ⟨_, _, N4.get N3.at_, N4.at_, ?_, ?_⟩⟩)))
        · show _ ≤ 16777216
          have := lens_ws (nm := nm) (i := i) (p := none)
          rw [show lstW none = [] from rfl, List.append_nil] at this
          rw [List.length_map]; simp; omega
        have N5 := Nw.of (h := h4) (o := .lst ((fstW nm i).map plW ++ [plW (wW bb n)]))
        subst e7
        refine sEnd (fin _ h4.length _ (Gr.nw N4.gr N5) ?_)
        rw [List.map_append]; exact N5.at_
      refine sAs (by show 7 < 9; decide) (xTup (aC (xS (a1 (xIdx (xIdx (xIdx (xV (i := 0) rfl (xV (i := 5) rfl (tat g3 _ (xI ⟨_, rfl, xI ⟨_, rfl, lz2, ?_⟩⟩)))))))))))
      refine sIf (r := bb) (tV (xIdx (xIdx (xIdx (xV (i := 0) rfl (xV (i := 5) rfl (tat g3 _ (xI ⟨_, rfl, xI ⟨_, rfl, rfl, rfl, ?_⟩⟩))))))))
      cases bb with
      | false => exact sEnd (add _ rfl)
      | true =>
        refine sAs (by show 7 < 9; decide) (xTup (aC (xS (aC (xS (aC (xV (i := 7) rfl (a1 (xTup (aC (xS (aC (xS (a1 (xTup (aN ⟨lz0, lz3, lz4, ?_⟩))))))))))))))))
        exact sEnd (add _ rfl)
  · obtain ⟨⟨b, c, d, e, rfl⟩, g, ef⟩ := iv
    rw [rangeL_len, Nat.zero_add, ← lt, List.take_of_length_le (by simp)] at ef
    refine sR (xBin (xV (i := 4) rfl (xLst (a1 (xTup (aC (xS (aC (xN (aC (xTup (a1 (xTup (aC (xS (a1 (xIdx (xV (i := 1) rfl (xI ⟨_, _, lst_got (g.get en), nms_at (i := 0) (by omega), ?_⟩)))))))))))))))))))
    refine ⟨lz2, lz1, a1 (xTup (aN ⟨lz0, lz4, lz1, fun h2 N2 => ⟨_, _, N2.get ef, N2.at_, ?_, ?_⟩⟩))⟩
    · show _ ≤ 16777216
      simp; omega
    have N3 := Nw.of (h := h2) (o := .lst ((tr.mapIdx (hsOf nm)).map plH ++ [plH (keeper nm)]))
    refine q _ h2.length (Gr.nw (Gr.nw g N2) N3) ?_
    unfold hsAll
    rw [List.map_append]; exact N3.at_
end
end Py

set_option Elab.async false
set_option linter.all false
set_option maxRecDepth 100000
set_option maxHeartbeats 8000000
/-! The law's own parts: what is asked, the things by it. -/
namespace Py
open PySem
def mdV : Md → PV
  | (s, none) => .tup [.str s, .tup []]
  | (s, some d) => .tup [.str s, .int d]
section
variable {k : Nat} {h : PH} {Q : KQ} {X : KX} {nm : Nat → Str}
theorem wY {a b : B} {w : Nat} {j : Int} {l : Loc} {D : En} (e : l[1]? = some (some (.int (w : Nat)))) (hj : (w : Int) = j) (q : evB sgT (callS sgT k) a l h { D with nx := fun l' h' => evB sgT (callS sgT k) b l' h' D }) : evB sgT (callS sgT k) (.cons (.ife (.cmp .eq (.var 1) (.int j)) a .nil) b) l h D :=
  sIf (r := true) (tC (xV e (xI (cEqI ⟨decide_eq_true hj, q⟩))))
theorem wN {a b : B} {w : Nat} {j : Int} {l : Loc} {D : En} (e : l[1]? = some (some (.int (w : Nat)))) (hj : (w : Int) ≠ j) (q : evB sgT (callS sgT k) b l h D) : evB sgT (callS sgT k) (.cons (.ife (.cmp .eq (.var 1) (.int j)) a .nil) b) l h D :=
  sIf (r := false) (tC (xV e (xI (cEqI ⟨decide_eq_false hj, sEnd q⟩))))
theorem s_asked {na many way j : Nat} (en : h[na]? = some (.lst (nmsV nm many))) (hj : j < many) (hw : way < 6) (q : ∀ h' a, Gr h h' → h.length ≤ a → h'[a]? = some (.lst ((asked nm way j).2.1.map mdV)) → Q (.tup [pl (asked nm way j).1, .ref a, .int ((asked nm way j).2.2 : Nat)]) h') :
    callS sgT (k + 1) (.fn n__law_asked) [.ref na, .int (way : Nat), .int (j : Nat)] h Q X := by
  have nat : ∀ {i : Nat}, i < many → ∀ R : KQ, R (.str (nm i)) h → idxV (.ref na) (.int (i : Nat)) h R := fun hi R r => ⟨_, _, lst_got en, nms_at hi, r⟩
  have h0 : 0 < many := by omega
  refine xFn (d := d__law_asked) rfl rfl ?_
  refine sAs (by show 3 < 5; decide) (xTup (aC (xS (aC (xIdx (xV (i := 0) rfl (xV (i := 2) rfl (nat hj _ ?_))))))))
  refine a1 (xTup (aN ⟨lz0, lz3, ?_⟩))
  match way, hw with
  | 0, _ =>
    refine wY rfl rfl (sR (xTup (aC ?_)))
    refine xTup (aC (xS (aC (xV (i := 3) rfl (aC (xS (a1 (xTup (aN ⟨lz0, lz4, ?_⟩)))))))))
    refine aC (xLst (a1 (xTup (aC (xIdx (xV (i := 0) rfl (xV (i := 2) rfl (nat hj _ ?_))))))))
    refine a1 (xTup (aN ⟨lz0, lz2, lz1, fun h2 N2 => ?_⟩))
    exact a1 (xI ⟨lz3, q h2 h.length N2.gr (Nat.le_refl _) N2.at_⟩)
  | 1, _ =>
    refine wN rfl (by decide) (wY rfl rfl (sR (xTup (aC ?_))))
    refine xTup (aC (xS (aC (xS (aC (xV (i := 3) rfl (a1 (xTup (aC (xS (aC (xTup (aC (xS (a1 (xS ⟨lz2, ?_⟩))))))))))))))))
    refine aC (xS (a1 (xTup (aN ⟨lz0, lz4, lz4, ?_⟩))))
    refine aC (xLst (a1 (xTup (aC (xIdx (xV (i := 0) rfl (xV (i := 2) rfl (nat hj _ ?_))))))))
    refine a1 (xTup (aN ⟨lz0, lz2, lz1, fun h2 N2 => ?_⟩))
    exact a1 (xI ⟨lz3, q h2 h.length N2.gr (Nat.le_refl _) N2.at_⟩)
  | 2, _ =>
    refine wN rfl (by decide) (wN rfl (by decide) (wY rfl rfl (sR (xTup (aC ?_)))))
    refine xTup (aC (xS (aC (xTup (aC (xS (aC (xIdx (xV (i := 0) rfl (xI (nat h0 _ ?_)))))))))))
    refine a1 (xTup (aN ⟨lz0, lz3, ?_⟩))
    refine aC (xS (a1 (xTup (a1 (xV (i := 3) rfl ⟨lz1, lz4, ?_⟩)))))
    refine aC (xLst (aC (xTup (aC (xIdx (xV (i := 0) rfl (xI (nat h0 _ ?_))))))))
    refine a1 (xTup (aN ⟨lz0, lz2, ?_⟩))
    refine a1 (xTup (aC (xIdx (xV (i := 0) rfl (xV (i := 2) rfl (nat hj _ ?_))))))
    refine a1 (xTup (aN ⟨lz0, lz2, lz2, fun h2 N2 => ?_⟩))
    exact a1 (xI ⟨lz3, q h2 h.length N2.gr (Nat.le_refl _) N2.at_⟩)
  | 3, _ =>
    refine wN rfl (by decide) (wN rfl (by decide) (wN rfl (by decide) (wY rfl rfl (sR (xTup (aC ?_))))))
    refine xTup (aC (xS (aC (xV (i := 3) rfl (aC (xS (a1 (xTup (aN ⟨lz0, lz4, ?_⟩)))))))))
    refine aC (xLst (a1 (xTup (aC (xIdx (xV (i := 0) rfl (xV (i := 2) rfl (nat hj _ ?_))))))))
    refine a1 (xTup (aN ⟨lz0, lz2, lz1, fun h2 N2 => ?_⟩))
    exact a1 (xI ⟨lz3, q h2 h.length N2.gr (Nat.le_refl _) N2.at_⟩)
  | 4, _ =>
    refine wN rfl (by decide) (wN rfl (by decide) (wN rfl (by decide) (wN rfl (by decide) (wY rfl rfl ?_))))
    refine sAs (by show 4 < 5; decide) (xTup (aC (xS (aC (xTup (aC (xS (aC (xS (a1 (xTup (a1 (xV (i := 3) rfl ⟨lz1, lz3, ?_⟩)))))))))))))
    refine a1 (xS ⟨lz3, ?_⟩)
    refine sR (xTup (aC ?_))
    refine xTup (aC (xS (aC (xV (i := 4) rfl (aC (xS (a1 (xTup (aN ⟨lz0, lz4, ?_⟩)))))))))
    refine aC (xLst (aC (xTup (aC (xIdx (xV (i := 0) rfl (xV (i := 2) rfl (nat hj _ ?_))))))))
    refine a1 (xTup (aN ⟨lz0, lz2, ?_⟩))
    refine a1 (xTup (aC (xS (a1 (xNeg (i := 1) (xI ⟨rfl, lz2, lz2, fun h2 N2 => ?_⟩))))))
    exact a1 (xI ⟨lz3, q h2 h.length N2.gr (Nat.le_refl _) N2.at_⟩)
  | 5, _ =>
    refine wN rfl (by decide) (wN rfl (by decide) (wN rfl (by decide) (wN rfl (by decide) (wN rfl (by decide) ?_))))
    refine sAs (by show 4 < 5; decide) (xTup (aC (xS (aC (xTup (aC (xS (aC (xS (a1 (xTup (a1 (xTup (aC (xS (aC (xIdx (xV (i := 0) rfl (xI (nat h0 _ ?_))))))))))))))))))))
    refine a1 (xTup (aN ⟨lz0, lz3, lz1, lz3, ?_⟩))
    refine aC (xS (a1 (xV (i := 3) rfl ⟨lz4, ?_⟩)))
    refine sR (xTup (aC ?_))
    refine xTup (aC (xS (aC (xV (i := 4) rfl (aC (xS (a1 (xTup (aN ⟨lz0, lz4, ?_⟩)))))))))
    refine aC (xLst (aC (xTup (aC (xIdx (xV (i := 0) rfl (xI (nat h0 _ ?_))))))))
    refine a1 (xTup (aN ⟨lz0, lz2, ?_⟩))
    refine aC (xTup (aC (xS (a1 (xI ⟨lz2, ?_⟩)))))
    refine a1 (xTup (aC (xIdx (xV (i := 0) rfl (xV (i := 2) rfl (nat hj _ ?_))))))
    refine a1 (xTup (aN ⟨lz0, lz2, lz3, fun h2 N2 => ?_⟩))
    exact a1 (xI ⟨lz3, q h2 h.length N2.gr (Nat.le_refl _) N2.at_⟩)
/-- things by what was made -/
def b_made : B :=
  (.cons (.ife (.cmp .ne (.var 20) (.tup .nil)) (.cons (.asg (.nm 20) (.tup (.cons (.tup (.cons (.str "thing") (.cons (.bin .add (.bf .len (.cons (.var 10) .nil)) (.var 20)) .nil))) .nil))) .nil) .nil)
  (.cons (.exp (.bm .append (.var 10) (.cons (.tup (.cons (.var 19) (.cons (.var 20) .nil))) .nil))) .nil))
theorem things_loop {l0 l1 l2 l3 l4 l5 l6 l7 l8 l9 l11 l12 l13 l14 l15 l16 l17 l18 : Option PV} {tp a : Nat} {items : List PV} {D : En} (ne : a ≠ tp) : ∀ (mds : List Md) (h : PH) (ms : List PV) (x y z : Option PV), h[a]? = some (.lst items) → h[tp]? = some (.lst ms) → ms.length + mds.length ≤ 1000 →
    (∀ h' x y, Stays [tp] h h' → h'[tp]? = some (.lst (ms ++ mdOf ms.length mds)) → D.nx [l0, l1, l2, l3, l4, l5, l6, l7, l8, l9, some (.ref tp), l11, l12, l13, l14, l15, l16, l17, l18, x, y, z] h') →
    iterL (liveL (.ref a) items) (fun v l' h' K => evG sgT (callS sgT k) (fun x h' => D.ex x l' h') (.tup (.cons (.nm 19) (.cons (.nm 20) .nil))) v l' h' fun l2 h2 => evB sgT (callS sgT k) b_made l2 h2 { D with nx := K, ct := K }) D.nx
      (mds.map mdV) [l0, l1, l2, l3, l4, l5, l6, l7, l8, l9, some (.ref tp), l11, l12, l13, l14, l15, l16, l17, l18, x, y, z] h
  | [], h, ms, x, y, z, ea, et, hz, q => ⟨lst_got ea, q h x y Stays.refl (by rw [show mdOf ms.length [] = [] from by cases ms <;> rfl, List.append_nil]; exact et)⟩
  | (s, d) :: mds, h, ms, x, y, z, ea, et, hz, q => by
    have go : ∀ (v : PV), mdOf ms.length ((s, d) :: mds) = .tup [.str s, v] :: mdOf (ms.length + 1) mds → ∀ (E : En), (E.nx = fun l' h' => iterL (liveL (.ref a) items) (fun v l' h' K => evG sgT (callS sgT k) (fun x h' => D.ex x l' h') (.tup (.cons (.nm 19) (.cons (.nm 20) .nil))) v l' h' fun l2 h2 => evB sgT (callS sgT k) b_made l2 h2 { D with nx := K, ct := K }) D.nx (mds.map mdV) l' h') →
        evB sgT (callS sgT k) (.cons (.exp (.bm .append (.var 10) (.cons (.tup (.cons (.var 19) (.cons (.var 20) .nil))) .nil))) .nil) [l0, l1, l2, l3, l4, l5, l6, l7, l8, l9, some (.ref tp), l11, l12, l13, l14, l15, l16, l17, l18, some (.str s), some v, z] h E := fun v em E eE => by
      refine sE_ (xBm (xV (i := 10) rfl ⟨ty_get et, a1 (xTup (aC (xV (i := 19) rfl (a1 (xV (i := 20) rfl ⟨lz2, _, et, by show _ < 16777216; omega, ?_⟩)))))⟩))
      have u := Up.of (o := .lst (ms ++ [.tup [.str s, v]])) et
      refine sEnd ?_
      rw [eE]
      refine things_loop ne mds _ (ms ++ [.tup [.str s, v]]) _ _ _ (u.get ne ea) u.at_ (by simp at hz ⊢; omega) fun h' x y S e => q h' x y (Stays.trans (u.stays (by simp)) S) ?_
      rw [em]
      rw [List.append_assoc, List.length_append] at e
      exact e
    cases d with
    | none =>
      refine ⟨lst_got ea, _, rfl, rfl, _, _, rfl, ⟨by show 19 < 22; decide, _, _, rfl, ⟨by show 20 < 22; decide, rfl, ?_⟩⟩⟩
      refine sIf (r := false) (tC (xV (i := 20) rfl (xTup (aN ⟨lz0, ?_⟩))))
      rw [cmp_ne rfl rfl]
      exact ⟨rfl, sEnd (go (.tup []) rfl _ rfl)⟩
    | some d =>
      refine ⟨lst_got ea, _, rfl, rfl, _, _, rfl, ⟨by show 19 < 22; decide, _, _, rfl, ⟨by show 20 < 22; decide, rfl, ?_⟩⟩⟩
      refine sIf (r := true) (tC (xV (i := 20) rfl (xTup (aN ⟨lz0, ?_⟩))))
      rw [cmp_ne rfl rfl]
      refine ⟨rfl, ?_⟩
      refine sAs (by show 20 < 22; decide) (xTup (a1 (xTup (aC (xS (a1 (xBin (xBf (a1 (xV (i := 10) rfl ⟨_, lst_got et, xV (i := 20) rfl (iAdd ⟨lz2, lz1, ?_⟩)⟩))))))))))
      exact sEnd (go (.tup [.tup [.str "thing", .int ((ms.length : Nat) + d)]]) rfl _ rfl)
end
end Py

set_option Elab.async false
set_option linter.all false
set_option maxRecDepth 100000
set_option maxHeartbeats 8000000
/-! The law's names, and what repr tells. -/
namespace Py
open PySem
def hl := (Str.ofString "abcdefghijkl").cps.toList
def hn (j : Nat) : Str := match hl[j]? with
  | some c => Str.ofString "h" ++ ⟨#[c]⟩
  | none => Str.ofString "h"
theorem hn_inj : ∀ i < 12, ∀ j < 12, hn i = hn j → i = j := by decide +kernel
theorem hn_not : ∀ i < 12, hn i ≠ Str.ofString "keeper" := by decide +kernel
theorem hn_rp : ∀ i < 12, Rp 0 10 (.str (hn i)) := by
  have h : ∀ i < 12, (dat (.str (hn i))).canLay0 = true ∧ (dat (.str (hn i))).showable = true ∧ (dat (.str (hn i))).shown.length ≤ 10 := by decide +kernel
  exact fun i hi => ⟨rfl, (h i hi).1, Nat.le_refl _, (h i hi).2.1, (h i hi).2.2⟩
theorem hn_at {j : Nat} (hj : j < 12) : ∃ c, atI (Str.ofString "abcdefghijkl").cps.toList (j : Nat) = some c ∧ Str.ofString "h" ++ ⟨#[c]⟩ = hn j := by
  have l : hl.length = 12 := by decide +kernel
  have e : hl[j]? = some (hl[j]'(by omega)) := List.getElem?_eq_getElem (by omega)
  refine ⟨hl[j]'(by omega), (atI_nat (k := j)).trans e, ?_⟩
  unfold hn
  rw [e]
section
variable {k : Nat} {h : PH} {Q : KQ} {X : KX}
/-- repr of two values and a list -/
theorem s_repr3 {n c a : Nat} {v1 v2 : PV} {xs : List PV} (r1 : Rp n c v1) (r2 : Rp n c v2) (rs : ∀ x ∈ xs, Rp n c x) (e : lstOf h (.ref a) = some xs) (hn : n ≤ 60) (hk : xs.length ≤ 100) (hc : c ≤ 1000) (q : Q (.str (PyData.tuple [dat v1, dat v2, .list (dats xs)]).shown) h) : bfV .repr1 [.tup [v1, v2, .ref a]] h Q := by
  obtain ⟨a1, b, c', d, e', f⟩ := Rps rs
  refine ⟨.tuple [dat v1, dat v2, .list (dats xs)], rfl, ⟨_, rfl, _, _, rfl, Dat_dat _ r1.fl, _, _, rfl, Dat_dat _ r2.fl, _, _, rfl, ⟨xs, e, Dats_dats xs a1⟩, rfl⟩, ?_, ?_, ?_, q⟩
  · unfold SeqAt.shaped
    show ((PyData.canLay0 (dat v1) && (PyData.canLay0 (dat v2) && (PyData.canLayAll0 (dats xs) && true))) && decide (max (PyData.depth (dat v1)) (max (PyData.depth (dat v2)) (max (PyData.depthAll (dats xs) + 1) 0)) + 1 ≤ 64)) = true
    have z1 := r1.dep
    have z2 := r2.dep
    rw [r1.lay, r2.lay, b, decide_eq_true (show max (PyData.depth (dat v1)) (max (PyData.depth (dat v2)) (max (PyData.depthAll (dats xs) + 1) 0)) + 1 ≤ 64 by omega)]; rfl
  · show (PyData.showable (dat v1) && (PyData.showable (dat v2) && (PyData.showableAll (dats xs) && true))) = true
    rw [r1.sho, r2.sho, d]; rfl
  · have t := listText_len_le (PyData.shownAll (dats xs))
    rw [f] at t
    have t2 := tupleText_len_le [(dat v1).shown, (dat v2).shown, listText (PyData.shownAll (dats xs))]
    show (tupleText [(dat v1).shown, (dat v2).shown, listText (PyData.shownAll (dats xs))]).length ≤ 16777216
    have z1 := r1.len
    have z2 := r2.len
    have z3 : c * xs.length ≤ 1000 * 100 := Nat.mul_le_mul hc hk
    simp at t2
    omega
theorem rp_md {nm : Nat → Str} {way j : Nat} (hr : ∀ i, Rp 0 10 (.str (nm i))) (L : Nat) (hL : L ≤ 1000) : ∀ x ∈ mdOf L (asked nm way j).2.1, Rp 3 115 x := by
  have rk : Rp 0 10 (.str (Str.ofString "keeper")) := Rp.lit (by decide +kernel)
  have r0 : Rp 1 3 (.tup []) := Rp.tup (n := 0) (c := 0) (m := 0) (fun x m => by cases m) (by simp)
  have a0 : ∀ i, Rp 3 115 (.tup [.str (nm i), .tup []]) := fun i => (Rp.tup (n := 1) (c := 10) (m := 2) (fun x m => by
    simp only [List.mem_cons, List.not_mem_nil, or_false] at m
    rcases m with rfl | rfl
    · exact (hr i).mono (by omega) (by omega)
    · exact r0.mono (by omega) (by omega)) (by simp)).mono (by omega) (by omega)
  have a1 : ∀ d : Int, d.natAbs ≤ 10000 → Rp 3 115 (.tup [.str (Str.ofString "keeper"), .tup [.tup [.str (Str.ofString "thing"), .int d]]]) := fun d hd => by
    have b1 : Rp 1 49 (.tup [.str (Str.ofString "thing"), .int d]) := Rp.tup (n := 0) (c := 21) (m := 2) (fun x m => by
      simp only [List.mem_cons, List.not_mem_nil, or_false] at m
      rcases m with rfl | rfl
      · exact Rp.lit (by decide +kernel)
      · exact Rp.int (by omega)) (by simp)
    have b2 : Rp 2 54 (.tup [.tup [.str (Str.ofString "thing"), .int d]]) := Rp.tup (n := 1) (c := 49) (m := 1) (fun x m => by
      simp only [List.mem_cons, List.not_mem_nil, or_false] at m
      subst m; exact b1) (by simp)
    exact (Rp.tup (n := 2) (c := 54) (m := 2) (fun x m => by
      simp only [List.mem_cons, List.not_mem_nil, or_false] at m
      rcases m with rfl | rfl
      · exact rk.mono (by omega) (by omega)
      · exact b2) (by simp)).mono (by omega) (by omega)
  intro x m
  unfold asked at m
  split at m <;> simp only [mdOf, List.mem_cons, List.not_mem_nil, or_false] at m
  · subst m; exact a0 _
  · subst m; exact a0 _
  · rcases m with rfl | rfl <;> exact a0 _
  · subst m; exact a0 _
  · rcases m with rfl | rfl
    · exact a0 _
    · exact a1 _ (by omega)
  · rcases m with rfl | rfl | rfl
    · exact a0 _
    · exact a1 _ (by omega)
    · exact a0 _
/-- programs of these houses, made -/
theorem nodup_all {nm : Nat → Str} {tr : List Nd} (hi : ∀ i < tr.length, ∀ j < tr.length, nm i = nm j → i = j) (hk : ∀ i < tr.length, nm i ≠ Str.ofString "keeper") : ((hsAll nm tr).map (·.nm)).Nodup := by
  have e : (tr.mapIdx (hsOf nm)).map (·.nm) = (List.range tr.length).map nm := by
    apply List.ext_getElem?
    intro i
    rw [List.getElem?_map, List.getElem?_mapIdx, List.getElem?_map]
    rcases Nat.lt_or_ge i tr.length with z | z
    · rw [List.getElem?_range z, List.getElem?_eq_getElem z]; rfl
    · rw [List.getElem?_eq_none z, List.getElem?_eq_none (by simpa using z)]; rfl
  unfold hsAll
  rw [List.map_append, e, List.nodup_append]
  refine ⟨?_, by simp, fun a ha b hb => ?_⟩
  · refine List.pairwise_map.mpr (List.Pairwise.imp_of_mem (fun {a b} ha hb hab z => hab (hi a (List.mem_range.mp ha) b (List.mem_range.mp hb) z)) List.nodup_range)
  · obtain ⟨i, hi, rfl⟩ := List.mem_map.mp ha
    obtain rfl := List.mem_singleton.mp hb
    exact hk i (List.mem_range.mp hi)
theorem rot_perm {α : Type} (l : List α) (n : Nat) : (l.drop n ++ l.take n).Perm l := List.perm_append_comm.trans (List.Perm.of_eq (List.take_append_drop n l))
theorem asked_fit {nm : Nat → Str} {way j : Nat} : fit (asked nm way j).1 ∧ dep (asked nm way j).1 ≤ 4 := by
  unfold asked
  split <;> refine ⟨?_, ?_⟩ <;> first | (simp [fit, fits]; done) | (simp [dep, deps]; done)
theorem ws_fit {nm : Nat → Str} {tr : List Nd} {x : Hs} (m : x ∈ hsAll nm tr) : x.ws.length ≤ 900 ∧ ∀ w ∈ x.ws, fit w.bd ∧ dep w.bd ≤ 4 := by
  rcases List.mem_append.mp m with m | m
  · obtain ⟨i, e⟩ := List.mem_iff_getElem?.mp m
    rw [List.getElem?_mapIdx] at e
    obtain ⟨nd, _, rfl⟩ := Option.map_eq_some_iff.mp e
    refine ⟨by show (fstW nm i ++ lstW nd.2).length ≤ 900; have := lens_ws (nm := nm) (i := i) (p := nd.2); omega, fun w mw => ?_⟩
    rcases List.mem_append.mp (show w ∈ fstW nm i ++ lstW nd.2 from mw) with mw | mw
    · unfold fstW at mw
      split at mw
      · simp only [List.mem_cons, List.not_mem_nil, or_false] at mw
        rcases mw with rfl | rfl
        · exact ⟨by simp [askW, fit, fits], by simp [askW, dep, deps]⟩
        · exact ⟨by simp [meW, fit, fits], by simp [meW, dep, deps]⟩
      · cases mw
    · obtain ⟨e0, _ | ⟨b, n⟩⟩ := nd
      · cases mw
      · obtain rfl := List.mem_singleton.mp mw
        cases b
        · exact ⟨trivial, by simp [wW, bodW, dep]⟩
        · exact ⟨by simp [wW, bodW, fit, fits], by simp [wW, bodW, dep, deps]⟩
  · obtain rfl := List.mem_singleton.mp m
    exact ⟨by simp [keeper], fun w mw => by cases mw⟩
end
end Py

set_option Elab.async false
set_option linter.all false
set_option maxRecDepth 100000
set_option maxHeartbeats 8000000
/-! The law's loop, its names. -/
namespace Py
open PySem
section
variable {k : Nat} {h : PH} {Q : KQ} {X : KX} {l : Loc}
theorem sAug {i : Nat} {e : E} {x : PV} {b : B} {D : En} (hi : l[i]? = some (some x)) (q : evE sgT (callS sgT k) (fun x h' => D.ex x l h') e l h fun y h2 => augV .add x y h2 fun z h3 => evB sgT (callS sgT k) b (l.set i (some z)) h3 D) : evB sgT (callS sgT k) (.cons (.aug i .add e) b) l h D := ⟨x, hi, q⟩
def nmOf (cell : Int) (i : Nat) : Str := hn (((i : Nat) + cell.fdiv 10).fmod 12).toNat
theorem m12 (x : Int) : 0 ≤ x.fmod 12 ∧ x.fmod 12 < 12 := by rw [Int.fmod_eq_emod_of_nonneg _ (by omega)]; omega
theorem nm_rp (cell : Int) (i : Nat) : Rp 0 10 (.str (nmOf cell i)) := hn_rp _ (by have := m12 ((i : Nat) + cell.fdiv 10); omega)
theorem nm_not (cell : Int) (i : Nat) : nmOf cell i ≠ Str.ofString "keeper" := hn_not _ (by have := m12 ((i : Nat) + cell.fdiv 10); omega)
theorem nm_inj (cell : Int) {i j : Nat} (hi : i < 12) (hj : j < 12) (e : nmOf cell i = nmOf cell j) : i = j := by
  have a := m12 ((i : Nat) + cell.fdiv 10)
  have b := m12 ((j : Nat) + cell.fdiv 10)
  have z := hn_inj _ (by omega) _ (by omega) e
  have z2 : ((i : Nat) + cell.fdiv 10).fmod 12 = ((j : Nat) + cell.fdiv 10).fmod 12 := by omega
  rw [Int.fmod_eq_emod_of_nonneg _ (by omega), Int.fmod_eq_emod_of_nonneg _ (by omega)] at z2
  omega
theorem s_names {cell : Int} {many : Nat} (h1 : l[1]? = some (some (.int cell))) (hi : 13 < l.length) (h2 : l[2]? = some (some (.int (many : Nat)))) (hm : many ≤ 11) (q : ∀ h', Gr h h' → h'[h.length]? = some (.lst (nmsV (nmOf cell) many)) → Q (.ref h.length) h') :
    evE sgT (callS sgT k) X (.lc (.bin .add (.str "h") (.idx (.str "abcdefghijkl") (.bin .mod (.bin .add (.var 13) (.bin .fdiv (.var 1) (.int 10))) (.int 12)))) (.nm 13) (.rng1 (.var 2)) .no) l h Q := by
  refine xLc hi (iR1 (j := (many : Nat)) ⟨by omega, by omega⟩ (xV h2 ⟨rfl, fun h2 N => ?_⟩))
  rw [Int.toNat_natCast]
  refine comp_inv (fun i acc h' => Gr h h' ∧ acc = (nmsV (nmOf cell) many).take i) (fun _ _ _ _ => trivial) _ 0 [] h2 ⟨N.gr, rfl⟩ N.at_ (by show 0 + _ ≤ 16777216; rw [rangeL_len]; omega) (fun i x acc h' K ex iv ea c1 _ => ?_) fun acc h' iv ea => ?_
  · obtain ⟨g, rfl⟩ := iv
    obtain ⟨hx, rfl⟩ := rangeL_at ex
    have e13 : ((l.set 13 none).set 13 (some (.int (i : Nat))))[13]? = some (some (.int (i : Nat))) := by rw [List.getElem?_set_self (by simpa using hi)]
    have e1 : ((l.set 13 none).set 13 (some (.int (i : Nat))))[1]? = some (some (.int cell)) := by rw [List.getElem?_set_ne (by decide), List.getElem?_set_ne (by decide)]; exact h1
    have b := m12 ((i : Nat) + cell.fdiv 10)
    obtain ⟨c, hc1, hc2⟩ := hn_at (j := (((i : Nat) + cell.fdiv 10).fmod 12).toNat) (by omega)
    rw [Int.toNat_of_nonneg b.1] at hc1
    refine xBin (xS (xIdx (xS (xBin (xBin (xV e13 (xBin (xV e1 (xI (iDiv (by decide) (by decide) (iAdd ?_)))))))))))
    refine xI (iMod (by decide) ⟨by show _ ≤ 16777216; decide +kernel, c, hc1, by show 1 + 1 ≤ 16777216; decide, ?_⟩)
    rw [hc2]
    refine c1 _ _ ea fun h4 u => ⟨Gr.up g u (Nat.le_refl _), ?_⟩
    have em : (nmsV (nmOf cell) many)[i]? = some (.str (nmOf cell i)) := by unfold nmsV; rw [List.getElem?_map, List.getElem?_range hx]; rfl
    rw [show (nmsV (nmOf cell) many).take (0 + i + 1) = (nmsV (nmOf cell) many).take (0 + i) ++ [.str (nmOf cell i)] by rw [Nat.zero_add, List.take_succ, em]; rfl]; rfl
  · obtain ⟨g, rfl⟩ := iv
    rw [rangeL_len, Nat.zero_add, List.take_of_length_le (by unfold nmsV; simp)] at ea
    exact q h' g ea
end
theorem mdOf_len : ∀ (mds : List Md) (L : Nat), (mdOf L mds).length = mds.length
  | [], _ => rfl
  | (s, none) :: r, L => congrArg (· + 1) (mdOf_len r (L + 1))
  | (s, some d) :: r, L => congrArg (· + 1) (mdOf_len r (L + 1))
theorem asked_len {nm : Nat → Str} {way j : Nat} : (asked nm way j).2.1.length ≤ 3 ∧ (asked nm way j).2.2 ≤ 1 := by
  unfold asked
  split <;> exact ⟨by simp, by simp⟩
structure Iv (nm : Nat → Str) (tr : List Nd) (i : Nat) (b : Tm) (t cnt : Nat) (ms : List PV) : Prop where
  ft : fit b
  dp : dep b ≤ 5 + 2 * i
  tb : t + 1 ≤ 100 ^ i
  cb : cnt ≤ 12 * i
  len : ms.length ≤ 3 * i
  rp : ∀ x ∈ ms, Rp 3 115 x
  ev : ∀ C : WC, (∀ x ∈ hsAll nm tr, x ∈ C.hs) → C.most = 1000 → Ev C (60 + 2 * i) (.tm b) ⟨.non, .non, [], 0⟩ ⟨[], 0⟩ (.val (.int (t : Nat))) ⟨ms, (cnt : Nat)⟩
theorem Iv.zero {nm : Nat → Str} {tr : List Nd} : Iv nm tr 0 (.num 0) 0 0 [] := ⟨trivial, by show 0 ≤ 5 + 2 * 0; omega, by simp, by omega, by simp, (fun x m => by cases m), fun C _ _ => .num⟩
theorem Iv.next {nm : Nat → Str} {tr : List Nd} {i t cnt k v c way : Nat} {b : Tm} {ms : List PV} (T : Tr tr) (hr : ∀ i, Rp 0 10 (.str (nm i))) (hi : i < 5) (I : Iv nm tr i b t cnt ms) (d : Td tr k v c) (hw : way < 6) :
    Iv nm tr (i + 1) (.two "+" (.two "*" b (.num 100)) (asked nm way k).1) (t * 100 + v) (cnt + c + (asked nm way k).2.2) (ms ++ mdOf ms.length (asked nm way k).2.1) := by
  obtain ⟨f1, f2⟩ := asked_fit (nm := nm) (way := way) (j := k)
  obtain ⟨b1, b2, b3⟩ := Td.bnd T d
  obtain ⟨c1, c2⟩ := asked_len (nm := nm) (way := way) (j := k)
  have lt := T.len
  have lk : k ≤ 10 := by
    have z : k < tr.length := by
      cases d with
      | none he _ _ => exact (List.getElem?_eq_some_iff.mp he).1
      | put he => exact (List.getElem?_eq_some_iff.mp he).1
      | more he _ _ => exact (List.getElem?_eq_some_iff.mp he).1
    omega
  have i1 := I.dp
  have i2 := I.tb
  have i3 := I.cb
  have i4 := I.len
  have p5 : 100 ^ i ≤ 100 ^ 5 := Nat.pow_le_pow_right (by omega) (by omega)
  refine ⟨⟨⟨I.ft, trivial⟩, f1⟩, ?_, ?_, by omega, ?_, fun x m => ?_, fun C hm mo => ?_⟩
  · show max (max (dep b) 0 + 1) (dep (asked nm way k).1) + 1 ≤ _
    omega
  · rw [Nat.pow_succ]; omega
  · rw [List.length_append, mdOf_len]; omega
  · rcases List.mem_append.mp m with m | m
    · exact I.rp x m
    · exact rp_md hr ms.length (by omega) x m
  · have r := ev_more (N := 60 + 2 * i) T hm mo (I.ev C hm mo) (by omega) (by omega) d hw (by omega) (by omega)
    rw [show 60 + 2 * (i + 1) = 60 + 2 * i + 2 by omega]
    exact r
end Py

set_option Elab.async false
set_option linter.all false
set_option maxRecDepth 100000
set_option maxHeartbeats 8000000
/-! Law 44, over the reading: the promise. -/
namespace Py
open PySem
def lawMost : Nat := 63
def lawK : Nat := 60
theorem told_at {h : PH} {Q : KQ} {X : KX} {tr : List Nd} {ta K j v c : Nat} (hK : j + 1 ≤ K) (et : h[ta]? = some (.lst (tr.map NdV))) (t : Td tr j v c) (q : Q (.tup [.int (v : Nat), .int (c : Nat)]) h) : callS sgT K (.fn n__law_told) [.ref ta, .int (j : Nat)] h Q X := by
  have s := s_told (k := K - j - 1) (X := X) et t q
  rw [show K - j - 1 + j + 1 = K by omega] at s
  exact s
theorem sATx {k : Nat} {h : PH} {l : Loc} {D : En} {b : B} {ts : Ts} {e : E} (q : evE sgT (callS sgT k) (fun x h' => D.ex x l h') e l h fun v h1 => ∃ xs, seqOf h1 v = some xs ∧ xs.length = lenTs ts ∧ evGs sgT (callS sgT k) (fun x h' => D.ex x l h') ts xs l h1 fun l' h' => evB sgT (callS sgT k) b l' h' D) : evB sgT (callS sgT k) (.cons (.asg (.tup ts) e) b) l h D := q
theorem aAdd {i j : Int} {h : PH} {Q : KQ} (q : Q (.int (i + j)) h) : augV .add (.int i) (.int j) h Q := q
theorem cut_lo {xs : List PV} {i : Nat} (hi : i ≤ xs.length) : cut xs (some (i : Int)) none = xs.drop i := by
  show (xs.drop (if (i : Int) < 0 then ((i : Int) + (xs.length : Int)).toNat else min (i : Int).toNat xs.length)).take (xs.length - (if (i : Int) < 0 then ((i : Int) + (xs.length : Int)).toNat else min (i : Int).toNat xs.length)) = _
  rw [if_neg (by omega), show min (i : Int).toNat xs.length = i by omega]
  exact List.take_of_length_le (by simp)
theorem cut_hi {xs : List PV} {i : Nat} (hi : i ≤ xs.length) : cut xs none (some (i : Int)) = xs.take i := by
  show (xs.drop 0).take ((if (i : Int) < 0 then ((i : Int) + (xs.length : Int)).toNat else min (i : Int).toNat xs.length) - 0) = _
  rw [if_neg (by omega), List.drop_zero]
  congr 1
  omega
/-- the program is made, walked, what came is shown -/
theorem law_end {h : PH} {cell : Int} {tr : List Nd} {i t cnt at_ ha tp many : Nat} {b : Tm} {ms : List PV} {x0 x1 x2 x3 x4 x11 x12 x13 x14 x15 x16 x17 x18 x19 x20 x21 : Option PV} {D : En} (T : Tr tr) (lt : tr.length = many) (hi : i ≤ 5) (I : Iv (nmOf cell) tr i b t cnt ms) (hat : at_ ≤ many) (eh : h[ha]? = some (.lst ((hsAll (nmOf cell) tr).map plH))) (et : h[tp]? = some (.lst ms)) (q : ∀ h', D.rt (.bl true) h') :
    evB sgT (callS sgT 60) (.cons (.asg (.nm 21) (.call n_program_of (.cons (.tup (.cons (.bf .tuple1 (.cons (.bin .add (.slc (.var 5) (.so (.var 6)) .no) (.slc (.var 5) .no (.so (.var 6)))) .nil)) (.cons (.tup (.cons (.tup .nil) (.cons (.str "number") (.cons (.var 7) .nil)))) .nil))) .nil)))
      (.cons (.ret (.cmp .eq (.bf .repr1 (.cons (.call n_walked (.cons (.var 21) (.cons (.lst .nil) (.cons (.int 1000) .nil)))) .nil)) (.bf .repr1 (.cons (.tup (.cons (.tup (.cons (.str "value") (.cons (.var 8) .nil))) (.cons (.var 9) (.cons (.var 10) .nil)))) .nil)))) .nil))
      [x0, x1, x2, x3, x4, some (.ref ha), some (.int (at_ : Nat)), some (pl b), some (.int (t : Nat)), some (.int (cnt : Nat)), some (.ref tp), x11, x12, x13, x14, x15, x16, x17, x18, x19, x20, x21] h D := by
  have l11 := T.len
  have lh : (hsAll (nmOf cell) tr).length = many + 1 := by simp [hsAll, lt]
  have p5 : 100 ^ i ≤ 100 ^ 5 := Nat.pow_le_pow_right (by omega) hi
  have tb := I.tb
  have cb := I.cb
  have db := I.dp
  have lb := I.len
  refine sAs (by show 21 < 22; decide) (xCall (a1 (xTup (aC (xBf (a1 (xBin (xSlc (xV (i := 5) rfl (xOS (i := (at_ : Nat)) (xV (i := 6) rfl ⟨rfl, xON ?_⟩)))))))))))
  refine ⟨_, lst_got eh, ?_⟩
  rw [cut_lo (by rw [List.length_map]; omega)]
  have N1 := Nw.of (h := h) (o := .lst (((hsAll (nmOf cell) tr).map plH).drop at_))
  generalize h ++ [PO.lst (((hsAll (nmOf cell) tr).map plH).drop at_)] = h1 at N1 ⊢
  refine xSlc (xV (i := 5) rfl (xON (xOS (i := (at_ : Nat)) (xV (i := 6) rfl ⟨rfl, ?_⟩))))
  refine ⟨_, lst_got (N1.get eh), ?_⟩
  rw [cut_hi (by rw [List.length_map]; omega)]
  have N2 := Nw.of (h := h1) (o := .lst (((hsAll (nmOf cell) tr).map plH).take at_))
  generalize h1 ++ [PO.lst (((hsAll (nmOf cell) tr).map plH).take at_)] = h2 at N2 ⊢
  refine ⟨_, _, N2.get N1.at_, N2.at_, by show _ ≤ 16777216; simp; omega, ?_⟩
  have N3 := Nw.of (h := h2) (o := .lst (((hsAll (nmOf cell) tr).map plH).drop at_ ++ ((hsAll (nmOf cell) tr).map plH).take at_))
  generalize h2 ++ [PO.lst (((hsAll (nmOf cell) tr).map plH).drop at_ ++ ((hsAll (nmOf cell) tr).map plH).take at_)] = h3 at N3 ⊢
  refine ⟨_, lst_got N3.at_, ?_⟩
  refine a1 (xTup (aC (xTup (aN ⟨lz0, aC (xS (a1 (xV (i := 7) rfl ⟨lz3, lz2, ?_⟩)))⟩))))
  have rot : ((hsAll (nmOf cell) tr).map plH).drop at_ ++ ((hsAll (nmOf cell) tr).map plH).take at_ = ((hsAll (nmOf cell) tr).drop at_ ++ (hsAll (nmOf cell) tr).take at_).map plH := by rw [List.map_append, List.map_drop, List.map_take]
  rw [rot]
  have perm := rot_perm (hsAll (nmOf cell) tr) at_
  have rl : ((hsAll (nmOf cell) tr).drop at_ ++ (hsAll (nmOf cell) tr).take at_).length ≤ 900 := by rw [perm.length_eq]; omega
  have nd : (((hsAll (nmOf cell) tr).drop at_ ++ (hsAll (nmOf cell) tr).take at_).map (·.nm)).Nodup := (perm.map _).nodup_iff.mpr (nodup_all (fun i hi j hj e => nm_inj cell (by omega) (by omega) e) fun i _ => nm_not cell i)
  have wf_ : ∀ x ∈ (hsAll (nmOf cell) tr).drop at_ ++ (hsAll (nmOf cell) tr).take at_, x.ws.length ≤ 900 ∧ ∀ w ∈ x.ws, fit w.bd ∧ dep w.bd ≤ 4 := fun x m => ws_fit (perm.mem_iff.mp m)
  generalize (hsAll (nmOf cell) tr).drop at_ ++ (hsAll (nmOf cell) tr).take at_ = hs at perm rl nd wf_ ⊢
  show callS sgT 60 (.fn n_program_of) [plP hs [] "number" b] h3 _ _
  refine s_program_of (k := 57) ⟨rl, fun x m => ⟨(wf_ x m).1, fun w mw => ⟨((wf_ x m).2 w mw).1, by have := ((wf_ x m).2 w mw).2; omega⟩⟩, I.ft, by omega⟩ fun h4 p g4 P => ?_
  refine sR (xCmp (xBf (a1 (xCall (aC (xV (i := 21) rfl (aC (xLst (aN ⟨lz0, fun h5 N5 => a1 (xI ?_)⟩)))))))))
  have et5 := N5.get (g4.get (N3.get (N2.get (N1.get et))))
  have rv : Rp 3 115 (.tup [.str (Str.ofString "value"), .int (t : Nat)]) := (Rp.tup (n := 0) (c := 21) (m := 2) (fun x m => by
    simp only [List.mem_cons, List.not_mem_nil, or_false] at m
    rcases m with rfl | rfl
    · exact Rp.lit (by decide +kernel)
    · exact Rp.int (by omega)) (by simp)).mono (by omega) (by omega)
  have rc : Rp 3 115 (.int (cnt : Nat)) := (Rp.int (by omega)).mono (by omega) (by omega)
  refine s_walked (k := 47) (st := ⟨ms, (cnt : Nat)⟩) (e := .tup [.str "value", .int (t : Nat)]) (P.gr N5.gr) nd rl (fun x m => (wf_ x m).1) N5.at_ (by simp) (fun C hC mo => ⟨60 + 2 * i, by have : Cp = 1000000 := rfl; omega, .inl ⟨.int (t : Nat), I.ev C (fun x m => by rw [hC]; exact perm.mem_iff.mpr m) mo, .int⟩⟩) fun h6 a6 F6 e6 => ?_
  refine s_repr3 rv rc I.rp (lst_got e6) (by omega) (by omega) (by omega) ?_
  refine xBf (a1 (xTup (aC (xTup (aC (xS (a1 (xV (i := 8) rfl ⟨lz2, ?_⟩))))))))
  refine aC (xV (i := 9) rfl (a1 (xV (i := 10) rfl ⟨lz3, ?_⟩)))
  refine s_repr3 rv rc I.rp (lst_got (F6.at_ _ _ (Nat.zero_le _) rfl et5)) (by omega) (by omega) (by omega) (cEqT ?_)
  have z := q h6
  rw [decide_eq_true rfl]
  exact z
theorem law_true : ∀ ns : List Int, ns.length ≤ lawMost → callS sgT (lawK + 1) (.fn n_law) [.ref 0] [.frl (ns.map PV.int)] (fun v _ => v = .bl true) (fun _ _ => False) := by
  intro ns hl
  show callS sgT (60 + 1) _ _ _ _ _
  have e0 : ([PO.frl (ns.map PV.int)] : PH)[0]? = some (.frl (ns.map PV.int)) := rfl
  generalize [PO.frl (ns.map PV.int)] = h0 at e0 ⊢
  refine xFn (d := d_law) rfl rfl ?_
  refine sAs (by show 1 < 22; decide) (xCall (aC (xCall (aC (xV (i := 0) rfl (a1 (xI ?_)))))))
  refine s_cell (k := 59) (frl_got e0) (by omega) fun c0 => ?_
  refine a1 (xI (s_mixed (k := 59) (by omega) (by omega) fun cell m0 m1 => ?_))
  obtain ⟨many, em, h2, h11⟩ : ∃ many : Nat, 2 + cell.fmod 10 = (many : Nat) ∧ 2 ≤ many ∧ many ≤ 11 := by
    have b : 0 ≤ cell.fmod 10 ∧ cell.fmod 10 < 10 := by rw [Int.fmod_eq_emod_of_nonneg _ (by omega)]; omega
    exact ⟨(2 + cell.fmod 10).toNat, by omega, by omega, by omega⟩
  refine sAs (by show 2 < 22; decide) (xBin (xI (xBin (xV (i := 1) rfl (xI (iMod (by decide) (iAdd ?_)))))))
  rw [em]
  refine sAs (by show 3 < 22; decide) (s_names (cell := cell) (many := many) rfl (by show 13 < 22; decide) rfl h11 fun h1 g1 en1 => ?_)
  refine sAs (by show 4 < 22; decide) (xCall (aC (xV (i := 0) rfl (a1 (xV (i := 2) rfl ?_)))))
  refine s_tree (k := 58) (g1.get e0) h2 h11 fun h2' tr ta g2 T lt et2 _ => ?_
  refine sAs (by show 5 < 22; decide) (xCall (aC (xV (i := 4) rfl (a1 (xV (i := 3) rfl ?_)))))
  refine s_houses (k := 59) T lt et2 (g2.get en1) (by omega) fun h3 ha g3 eh3 => ?_
  have et3 := g3.get et2
  have en3 := g3.get (g2.get en1)
  have e3 := g3.get (g2.get (g1.get e0))
  have lh : ((hsAll (nmOf cell) tr).map plH).length = many + 1 := by simp [hsAll, lt]
  obtain ⟨at_, ea, hat⟩ : ∃ a : Nat, (cell.fdiv 120).fmod ((many + 1 : Nat) : Int) = (a : Nat) ∧ a ≤ many := by
    have b1 : 0 ≤ (cell.fdiv 120).fmod ((many + 1 : Nat) : Int) := by rw [Int.fmod_eq_emod_of_nonneg _ (by omega)]; exact Int.emod_nonneg _ (by omega)
    have b2 : (cell.fdiv 120).fmod ((many + 1 : Nat) : Int) < ((many + 1 : Nat) : Int) := by rw [Int.fmod_eq_emod_of_nonneg _ (by omega)]; exact Int.emod_lt_of_pos _ (by omega)
    exact ⟨((cell.fdiv 120).fmod ((many + 1 : Nat) : Int)).toNat, by omega, by omega⟩
  refine sAs (by show 6 < 22; decide) (xBin (xBin (xV (i := 1) rfl (xI (iDiv (by decide) (by decide) ?_)))))
  refine xBf (a1 (xV (i := 5) rfl ⟨_, lst_got eh3, iMod (by rw [lh]; omega) ?_⟩))
  rw [lh, ea]
  refine sAT (xs := [pl (.num 0), .int ((0 : Nat) : Int), .int ((0 : Nat) : Int), .ref h3.length]) (xTup (aC (xTup (aC (xS (a1 (xI ⟨lz2, ?_⟩)))))))
  refine aC (xI (aC (xI (a1 (xLst (aN ⟨lz0, fun h4 N4 => ⟨lz4, rfl, rfl, ?_⟩⟩))))))
  refine ⟨_, _, rfl, ⟨by show 7 < 22; decide, _, _, rfl, ⟨by show 8 < 22; decide, _, _, rfl, ⟨by show 9 < 22; decide, _, _, rfl, ⟨by show 10 < 22; decide, rfl, ?_⟩⟩⟩⟩⟩
  have lt0 := lt_of e3
  have lta := lt_of et3
  have ltn := lt_of en3
  have lth := lt_of eh3
  have bn : 0 ≤ (cell.fdiv 1500).fmod 5 ∧ (cell.fdiv 1500).fmod 5 < 5 := by rw [Int.fmod_eq_emod_of_nonneg _ (by omega)]; omega
  refine sFor (iR1 (j := 1 + (cell.fdiv 1500).fmod 5) ⟨by omega, by omega⟩ (xBin (xI (xBin (xBin (xV (i := 1) rfl (xI (iDiv (by decide) (by decide) ?_))))))))
  refine xI (iMod (by decide) (iAdd ⟨rfl, ?_⟩))
  refine iter_invN (fun i l' h' => ∃ b t cnt ms, (∃ x11 x12 x13 x14 x15 x16 x17 x18 x19 x20 x21, l' = [some (.ref 0), some (.int cell), some (.int (many : Nat)), some (.ref h0.length), some (.ref ta), some (.ref ha), some (.int (at_ : Nat)), some (pl b), some (.int (t : Nat)), some (.int (cnt : Nat)), some (.ref h3.length), x11, x12, x13, x14, x15, x16, x17, x18, x19, x20, x21]) ∧ Iv (nmOf cell) tr i b t cnt ms ∧ h'[h3.length]? = some (.lst ms) ∧ Stays [h3.length] h4 h')
    (fun _ _ _ _ => trivial) _ 0 (fun i x ex l' h' K iv hK => ?_) (fun l' h' iv => ?_) _ h4 ⟨_, 0, 0, [], ⟨_, _, _, _, _, _, _, _, _, _, _, rfl⟩, Iv.zero, N4.at_, Stays.refl⟩
  · obtain ⟨b, t, cnt, ms, ⟨x11, x12, x13, x14, x15, x16, x17, x18, x19, x20, x21, rfl⟩, I, etp, S⟩ := iv
    obtain ⟨hi, rfl⟩ := rangeL_at ex
    have up : ∀ {a : Nat} {o : PO}, a < h3.length → h3[a]? = some o → h'[a]? = some o := fun l e => S.at_ _ _ (by simp; omega) (N4.get e)
    have I := (show 0 + i = i by omega) ▸ I
    refine ⟨by show 11 < 22; decide, ?_⟩
    refine sAs (by show 12 < 22; decide) (xCall (aC (xCall (aC (xV (i := 0) rfl (a1 (xBin (xI (xV (i := 11) rfl (iAdd ?_))))))))))
    refine s_cell (k := 59) (frl_got (up lt0 e3)) (by omega) fun c1 => ?_
    refine a1 (xV (i := 11) rfl (s_mixed (k := 59) (by omega) (by omega) fun m m0 m1 => ?_))
    obtain ⟨kk, ek, hk⟩ : ∃ a : Nat, m.fmod (many : Nat) = (a : Nat) ∧ a < many := by
      have b1 : 0 ≤ m.fmod (many : Nat) := by rw [Int.fmod_eq_emod_of_nonneg _ (by omega)]; exact Int.emod_nonneg _ (by omega)
      have b2 : m.fmod (many : Nat) < (many : Nat) := by rw [Int.fmod_eq_emod_of_nonneg _ (by omega)]; exact Int.emod_lt_of_pos _ (by omega)
      exact ⟨(m.fmod (many : Nat)).toNat, by omega, by omega⟩
    refine sAs (by show 13 < 22; decide) (xBin (xV (i := 12) rfl (xV (i := 2) rfl (iMod (by omega) ?_))))
    rw [ek]
    obtain ⟨way, ew, hw⟩ : ∃ a : Nat, (m.fdiv (many : Nat)).fmod 6 = (a : Nat) ∧ a < 6 := by
      have b1 : 0 ≤ (m.fdiv (many : Nat)).fmod 6 ∧ (m.fdiv (many : Nat)).fmod 6 < 6 := by rw [Int.fmod_eq_emod_of_nonneg _ (by omega)]; omega
      exact ⟨((m.fdiv (many : Nat)).fmod 6).toNat, by omega, by omega⟩
    obtain ⟨v, c, d⟩ := T.td kk (by omega)
    obtain ⟨d1, d2, d3⟩ := Td.bnd T d
    obtain ⟨q1, q2⟩ := asked_len (nm := nmOf cell) (way := way) (j := kk)
    refine sATx (xCall (aC (xV (i := 3) rfl (aC (xBin (xBin (xV (i := 12) rfl (xV (i := 2) rfl (iDiv (by omega) (Nat.lt_of_le_of_lt (Nat.log2_le_self _) (by omega)) ?_)))))))))
    refine xI (iMod (by decide) ?_)
    rw [ew]
    refine a1 (xV (i := 13) rfl (s_asked (k := 59) (up ltn en3) hk hw fun h5 a g5 la ea5 => ?_))
    refine ⟨_, rfl, rfl, ?_⟩
    refine ⟨_, _, rfl, ⟨by show 14 < 22; decide, _, _, rfl, ⟨by show 15 < 22; decide, _, _, rfl, ⟨by show 16 < 22; decide, rfl, ?_⟩⟩⟩⟩
    refine sAT (xs := [.int (v : Nat), .int (c : Nat)]) (xCall (aC (xV (i := 4) rfl (a1 (xV (i := 13) rfl (told_at (by omega) (g5.get (up lta et3)) d ⟨rfl, rfl, ?_⟩))))))
    refine ⟨_, _, rfl, ⟨by show 17 < 22; decide, _, _, rfl, ⟨by show 18 < 22; decide, rfl, ?_⟩⟩⟩
    refine sAs (by show 7 < 22; decide) (xTup (aC (xS (aC (xS (aC (xTup (aC (xS (aC (xS (aC (xV (i := 7) rfl (a1 (xTup (aC (xS (a1 (xI ⟨lz2, lz4, ?_⟩)))))))))))))))))))
    refine a1 (xV (i := 14) rfl ⟨lz4, ?_⟩)
    refine sAs (by show 8 < 22; decide) (xBin (xBin (xV (i := 8) rfl (xI (iMul (.inr (by omega)) (xV (i := 17) rfl (iAdd ?_)))))))
    refine sAug (i := 9) rfl (xBin (xV (i := 18) rfl (xV (i := 16) rfl (iAdd (aAdd ?_)))))
    rw [show ((t : Nat) : Int) * 100 + (v : Nat) = ((t * 100 + v : Nat) : Int) by omega, show ((cnt : Nat) : Int) + ((c : Nat) + ((asked (nmOf cell) way kk).2.2 : Nat)) = ((cnt + c + (asked (nmOf cell) way kk).2.2 : Nat) : Int) by omega]
    refine sFor (iSeq (xV (i := 15) rfl ⟨lst_got ea5, ?_⟩))
    have lS := lt_of etp
    have i4 := I.len
    refine things_loop (a := a) (tp := h3.length) (by omega) _ h5 ms _ _ _ ea5 (g5.get etp) (by omega) fun h6 x y S6 e6 => ?_
    refine hK _ _ ⟨.two "+" (.two "*" b (.num 100)) (asked (nmOf cell) way kk).1, t * 100 + v, cnt + c + (asked (nmOf cell) way kk).2.2, ms ++ mdOf ms.length (asked (nmOf cell) way kk).2.1, ⟨_, _, _, _, _, _, _, _, _, _, _, rfl⟩, ?_, e6, (S.trans g5.stays).trans S6⟩
    rw [show 0 + i + 1 = i + 1 by omega]
    exact I.next T (nm_rp cell) (by omega) d hw
  · obtain ⟨b, t, cnt, ms, ⟨x11, x12, x13, x14, x15, x16, x17, x18, x19, x20, x21, rfl⟩, I, etp, S⟩ := iv
    have up : ∀ {a : Nat} {o : PO}, a < h3.length → h3[a]? = some o → h'[a]? = some o := fun l e => S.at_ _ _ (by simp; omega) (N4.get e)
    exact law_end T lt (by rw [rangeL_len]; omega) I hat (up lth eh3) etp fun h' => rfl
end Py

set_option Elab.async false
set_option linter.all false
set_option maxRecDepth 100000
set_option maxHeartbeats 0
open PySem PySem.W PySem.Calls PyProof.Rows
theorem PySem.Challenge.cw_elderhouse_k44_the_things_own_house_holds : PySem.Challenge.rw_elderhouse_k44_the_things_own_house.Holds := by
  w_on; o_law
  refine HandSHeadRun.head_any (r := OpenLaw.row PySem.Challenge.rw_elderhouse_k44_the_things_own_house) (q := view (OpenLaw.row PySem.Challenge.rw_elderhouse_k44_the_things_own_house).prog [56]) (H := Py.hk) (ob := Py.ob) (M := 100000) (loose := Py.topNames) (d := HandSHeadRun.topDef (OpenLaw.row PySem.Challenge.rw_elderhouse_k44_the_things_own_house).prog 56) (kwd := []) Py.ob_eq
    (by kernel_rfl) (fun s => by kernel_rfl) Py.run (by kernel_rfl) (by kernel_rfl) (by kernel_rfl) (by rfl) (by first | assumption | decide +kernel) (by decide +kernel) ⟨rfl, rfl, rfl, rfl, rfl, by decide +kernel⟩ ?hw ?hc
  case hw => w_witness2
  case hc =>
    refine Py.walk_ofG (l := PySem.Challenge.rw_elderhouse_k44_the_things_own_house) (n := Py.lawMost) (k := Py.lawK + 1) (x := "_law_script") rfl (by decide) (by kernel_rfl) ⟨rfl, by decide, by decide⟩ ?F
    intro w mg fa h Y G hmg0
    obtain ⟨K, KX, c, cc⟩ := Y
    have hmg : mg ("law" : PySem.Str) = some (.ref fa) := by
      have e : (HandSHeadRun.topDef (OpenLaw.row PySem.Challenge.rw_elderhouse_k44_the_things_own_house).prog 56).name = ("law" : PySem.Str) := by kernel_rfl
      rw [← e]
      exact hmg0
    obtain ⟨fd, hb, hF⟩ := Py.facts (P := (PySem.Challenge.rw_elderhouse_k44_the_things_own_house).prog) (w := w) (k := Py.lawK) (n := 1) KX G hmg c cc
    exact ⟨K, fd, Py.spF (Py.moT K) (Py.lawK + 1) Py.n_law 1, KX, hb, fun H a ns hl hO hS => Py.law_sp (n := Py.lawMost) (dL := Py.d_law) rfl rfl Py.law_true H a ns hl hO hS, hF⟩

