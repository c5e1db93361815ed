import PyProof.Rows.All
import Wide.All
import OpenK.AllK
import Wide.FinOn
import HandS.ForMost
import HandS.Defaults
import HandS.HeadHook1
import HandS.HeadHook2
import HandS.HeadHook3
import HandS.HeadHook4
import KE.KStateDown
import HandS.Head0
import HandS.Head1
import HandS.Head2
import HandS.MakeKw
import PySem.Challenge.RW_elderhouse_k15_parts_and_tuples
import HandS.Wide
import HandS.CallSlots
import HandS.Ends
import HandS.Walk
import HandS.TupAny
import HandS.TupMul
import HandS.ForExc
import HandS.IsInst
import HandS.Dict
import PyProof.ListMulRoad
import PyProof.FactsAll.tuple_2
import PyProof.StrOps2
import HandS.Deep
import HandS.More
import HandS.RaiseMore
import HandS.Text
import KE.KDictPairs
import KE.KDictZip
import HandS.ExcValue
import HandS.Comp
import HandS.List
import PyProof.ZipIter
import PyProof.EnumIter
import HandS.Zip
import HandS.Replace
import HandS.Style
import HandS.New0
import HandS.NoneIn
import HandS.Conv
import HandS.CallRecv
import HandS.Small
import HandS.Codes
set_option Elab.async false
set_option linter.all false
set_option maxRecDepth 100000
/-! PyDen: a small semantics of the Python at hand: values (tuples are values), a heap as a list, a reading of each form as a predicate transformer. -/
namespace Py
open PySem

/-! ### values and objects -/
inductive PV where
  | non | bl (b : Bool) | int (i : Int) | str (s : Str) | tup (xs : List PV) | ref (a : Nat)
inductive PO where
  | lst (xs : List PV)
  | frl (xs : List PV)
  | dic (kvs : List (PV × PV))
  | frd (kvs : List (PV × PV))
  | tpl (xs : List PV)
  | ins (c : Nat) (fs : List (Nat × PV))
abbrev PH := List PO
abbrev Loc := List (Option PV)
abbrev KQ := PV → PH → Prop
structure XV where
  c : Nat
  fs : List (Nat × PV)
abbrev KX := XV → PH → Prop
abbrev SZ : Nat := 16777216

/-! ### syntax -/
inductive BO where
  | add | sub | mul | fdiv | mod | pow
  deriving DecidableEq
inductive CO where
  | eq | ne | lt | le | gt | ge | inn | nin | isN | notN | inD | ninD | inX | ninX
  deriving DecidableEq
/-- built-in functions -/
inductive BF where
  | len | list1 | tuple1 | tuple0 | isInt | isBool | isStr | isList | isTuple | min2 | max2 | minL | maxL | sumL | abs | int1 | str1 | repr1 | sorted1 | all1 | dict1 | dict0 | listD | sortD | dictD | dictT | tupleP
  deriving DecidableEq
/-- methods of built-in types -/
inductive BM where
  | append | extend | pop0 | pop1 | insert | reverse | clear | index | get1 | get2 | join | split | startswith | update | isalnum | upper | indexX | sindex
  deriving DecidableEq
mutual
inductive E where
  | var (i : Nat) | int (i : Int) | str (s : Str) | bl (b : Bool) | non
  | glob (g : Nat)
  | bin (o : BO) (a b : E) | neg (a : E) | nt (a : E) | and (a b : E) | or (a b : E)
  | cmp (o : CO) (a b : E) | chain (o o' : CO) (a b c : E) | ite (c : C) (a b : E)
  | tup (es : Es) | lst (es : Es) | dic0
  | idx (a b : E) | slc (a : E) (lo hi : OE)
  | attr (a : E) (f : Nat)
  | call (f : Nat) (args : Es) | mk (c : Nat) (args : Es) | mkK (c : Nat) (args : Es) (last : E) | slr (a : E) | dicl (ks : List Str) (vs : Es) | meth (o : E) (m : Nat) (args : Es) | ini (c : Nat) (args : Es) | mk0 (c : Nat) | lrg1 (a : E)
  | isi (f : BF) (a : E) | bf (f : BF) (args : Es) | bm (m : BM) (o : E) (args : Es)
  | lc (elt : E) (t : T) (it : I) (cond : OC)
  | dget (o a b : E)
  | dxi (a b : E)
  | dup (o a : E)
  | lke (e : E) | dg1 (o a : E) | co (e : E)
  | dzip (a b : E)
  | lzip (a b : E)
inductive Es where
  | nil | cons (e : E) (es : Es)
inductive OE where
  | no | so (e : E)
/-- tests -/
inductive C where
  | v (e : E) | cmp (o : CO) (a b : E) | chain (o o' : CO) (a b c : E) | nt (c : C) | and (a b : C) | or (a b : C)
inductive OC where
  | no | so (c : C)
/-- what a loop walks -/
inductive I where
  | seq (e : E) | rng1 (a : E) | rng2 (a b : E) | enu (e : E) | zip2 (a b : E) | rev (e : E) | keys (e : E)
/-- targets -/
inductive T where
  | nm (i : Nat) | tup (ts : Ts) | attr (o : E) (f : Nat) | sub (o i : E)
inductive Ts where
  | nil | cons (t : T) (ts : Ts)
end
mutual
inductive S where
  | asg (t : T) (e : E) | aug (i : Nat) (o : BO) (e : E) | augF (ob : E) (f : Nat) (o : BO) (e : E) | augS (ob ix : E) (o : BO) (e : E)
  | exp (e : E) | ret (e : E) | retN | ife (c : C) (a b : B) | for (t : T) (it : I) (b : B) | whl (c : C) (b : B) | pas | cont
  | rais (c : Nat) (args : Es) | rai0
  | lks (s : S) | augD (ob ix : E) (o : BO) (e : E)
inductive B where
  | nil | cons (s : S) (b : B)
end

/-! ### looks at the heap -/
def lstOf (h : PH) : PV → Option (List PV)
  | .ref a => match h[a]? with
    | some (.lst xs) => some xs
    | some (.frl xs) => some xs
    | _ => none
  | _ => none
def seqOf (h : PH) : PV → Option (List PV)
  | .tup xs => some xs
  | v => lstOf h v
def dicOf (h : PH) : PV → Option (List (PV × PV))
  | .ref a => match h[a]? with
    | some (.dic kvs) => some kvs
    | _ => none
  | _ => none
/-- a dict's content, locked or not -/
def dicAt (h : PH) (a : Nat) : Option (List (PV × PV)) := match h[a]? with
  | some (.dic kvs) => some kvs
  | some (.frd kvs) => some kvs
  | _ => none
theorem dic_got {h : PH} {a : Nat} {kvs : List (PV × PV)} (e : h[a]? = some (.dic kvs)) : dicAt h a = some kvs := by unfold dicAt; rw [e]
theorem frd_got {h : PH} {a : Nat} {kvs : List (PV × PV)} (e : h[a]? = some (.frd kvs)) : dicAt h a = some kvs := by unfold dicAt; rw [e]
theorem dicAt_or {h : PH} {a : Nat} {kvs : List (PV × PV)} (e : dicAt h a = some kvs) : h[a]? = some (.dic kvs) ∨ h[a]? = some (.frd kvs) := by
  unfold dicAt at e
  split at e
  · cases e; left; assumption
  · cases e; right; assumption
  · cases e
def truV (h : PH) : PV → Option Bool
  | .non => some false
  | .bl b => some b
  | .int i => some (i != 0)
  | .str s => if s.length ≤ SZ then some ((s.length : Int) != 0) else none
  | .tup xs => some (!xs.isEmpty)
  | .ref a => match h[a]? with
    | some (.lst xs) => some (!xs.isEmpty)
    | some (.frl xs) => some (!xs.isEmpty)
    | some (.dic kvs) => some (!kvs.isEmpty)
    | _ => none
/-! a value as data -/
mutual
def Dat (h : PH) : PyData → PV → Prop
  | .none, v => v = .non
  | .bool b, v => v = .bl b
  | .int i, v => v = .int i
  | .str s, v => v = .str s
  | .tuple ds, v => ∃ xs, v = .tup xs ∧ Dats h ds xs
  | .list ds, v => ∃ xs, lstOf h v = some xs ∧ Dats h ds xs
  | .dict _, _ => False
def Dats (h : PH) : List PyData → List PV → Prop
  | [], xs => xs = []
  | d :: ds, xs => ∃ y ys, xs = y :: ys ∧ Dat h d y ∧ Dats h ds ys
end
def putN (f : Nat) (v : PV) : List (Nat × PV) → List (Nat × PV)
  | [] => [(f, v)]
  | (g, x) :: r => if g = f then (g, v) :: r else (g, x) :: putN f v r
def getN (f : Nat) : List (Nat × PV) → Option PV
  | [] => none
  | (g, x) :: r => if g = f then some x else getN f r
def ixN (n : Nat) (i : Int) : Option Nat := if 0 ≤ i then (if i < n then some i.toNat else none) else if -(n : Int) ≤ i then some (i + n).toNat else none
def atI {α : Type} (xs : List α) (i : Int) : Option α := (ixN xs.length i).bind fun j => xs[j]?
def sIx (n d : Nat) : Option Int → Nat
  | none => d
  | some v => if v < 0 then (v + (n : Int)).toNat else min v.toNat n
def cut {α : Type} (xs : List α) (lo hi : Option Int) : List α := (xs.drop (sIx xs.length 0 lo)).take (sIx xs.length xs.length hi - sIx xs.length 0 lo)

/-! ### operators -/
def mulOk (i j : Int) : Prop := (-(2 ^ 64) < i ∧ i < 2 ^ 64) ∨ (-(2 ^ 64) < j ∧ j < 2 ^ 64)
def binV : BO → PV → PV → PH → KQ → Prop
  | .add, .int i, .int j, h, Q => Q (.int (i + j)) h
  | .add, .str i, .str j, h, Q => i.length + j.length ≤ SZ ∧ Q (.str (i ++ j)) h
  | .add, .tup xs, .tup ys, h, Q => xs.length + ys.length ≤ SZ ∧ Q (.tup (xs ++ ys)) h
  | .add, .ref a, .ref b, h, Q => ∃ xs ys, h[a]? = some (.lst xs) ∧ h[b]? = some (.lst ys) ∧ xs.length + ys.length ≤ SZ ∧ Q (.ref h.length) (h ++ [.lst (xs ++ ys)])
  | .sub, .int i, .int j, h, Q => Q (.int (i - j)) h
  | .mul, .int i, .int j, h, Q => mulOk i j ∧ Q (.int (i * j)) h
  | .mul, .str a, .int k, h, Q => (-(2 ^ 63) ≤ k ∧ k < 2 ^ 63 ∧ a.length * k.toNat ≤ SZ ∧ a.length ≤ SZ) ∧ Q (.str ⟨(List.replicate k.toNat a.cps.toList).flatten.toArray⟩) h
  | .mul, .tup xs, .int k, h, Q => (xs ≠ [] ∧ -1000 ≤ k ∧ k ≤ 1000 ∧ xs.length ≤ 1000) ∧ Q (.tup (List.replicate k.toNat xs).flatten) h
  | .mul, .ref a, .int k, h, Q => ∃ xs, h[a]? = some (.lst xs) ∧ -(2 ^ 63) ≤ k ∧ k < 2 ^ 63 ∧ xs.length * k.toNat ≤ SZ ∧ Q (.ref h.length) (h ++ [.lst (List.replicate k.toNat xs).flatten])
  | .fdiv, .int i, .int j, h, Q => j ≠ 0 ∧ j.natAbs.log2 < 9000 ∧ Q (.int (i.fdiv j)) h
  | .mod, .int i, .int j, h, Q => j ≠ 0 ∧ Q (.int (i.fmod j)) h
  | .pow, .int i, .int j, h, Q => (0 ≤ j ∧ j ≤ 1000000 ∧ i.natAbs < 2 ^ 64) ∧ Q (.int (i ^ j.toNat)) h
  | _, _, _, _, _ => False
def isNonB : PV → Bool
  | .non => true
  | _ => false
def isBlB (b : Bool) : PV → Bool
  | .bl c => c == b
  | _ => false
def flP : PV → Bool
  | .non => true
  | .bl _ => true
  | .int _ => true
  | .str _ => true
  | _ => false
def eqP : PV → PV → Bool
  | .non, .non => true
  | .bl a, .bl b => a == b
  | .bl a, .int b => (if a then 1 else 0) == b
  | .int a, .bl b => a == (if b then 1 else 0)
  | .int a, .int b => a == b
  | .str a, .str b => a == b
  | _, _ => false
def notRef : PV → Bool
  | .ref _ => false
  | .tup _ => false
  | _ => true
/-- keys -/
def eqK : PV → PV → Bool
  | .int i, .int j => decide (i = j)
  | .str i, .str j => decide (i = j)
  | _, _ => false
def isK : PV → Bool
  | .int _ => true
  | .str _ => true
  | _ => false
def lookD (k : PV) : List (PV × PV) → Option PV
  | [] => none
  | (x, y) :: r => if eqK x k = true then some y else lookD k r
def cmpV : CO → PV → PV → PH → (Bool → PH → Prop) → Prop
  | .eq, .str a, .str b, h, Q => Q (decide (a = b)) h
  | .ne, .str a, .str b, h, Q => Q (!decide (a = b)) h
  | .inn, .str a, .str b, h, Q => ∃ c, a = ⟨#[c]⟩ ∧ Q (decide (c ∈ b.cps.toList)) h
  | .nin, .str a, .str b, h, Q => ∃ c, a = ⟨#[c]⟩ ∧ Q (!decide (c ∈ b.cps.toList)) h
  | .inn, x, y, h, Q => ∃ xs, seqOf h y = some xs ∧ flP x = true ∧ xs.all flP = true ∧ Q (xs.any fun z => eqP z x) h
  | .nin, x, y, h, Q => ∃ xs, seqOf h y = some xs ∧ flP x = true ∧ xs.all flP = true ∧ Q (!xs.any fun z => eqP z x) h
  | .inD, x, y, h, Q => isK x = true ∧ ∃ a kvs, y = .ref a ∧ dicAt h a = some kvs ∧ Q (lookD x kvs).isSome h
  | .ninD, x, y, h, Q => isK x = true ∧ ∃ a kvs, y = .ref a ∧ dicAt h a = some kvs ∧ Q (!(lookD x kvs).isSome) h
  | .inX, x, .tup ys, h, Q => ∃ d ds, Dat h d x ∧ Dats h ds ys ∧ SeqAt.shaped d = true ∧ SeqAt.shaped (.tuple ds) = true ∧ Q (ds.any fun z => PyData.eqv z d) h
  | .inX, x, y, h, Q => ∃ d ds xs, Dat h d x ∧ lstOf h y = some xs ∧ Dats h ds xs ∧ SeqAt.shaped d = true ∧ SeqAt.shaped (.list ds) = true ∧ Q (ds.any fun z => PyData.eqv z d) h
  | .ninX, x, .tup ys, h, Q => ∃ d ds, Dat h d x ∧ Dats h ds ys ∧ SeqAt.shaped d = true ∧ SeqAt.shaped (.tuple ds) = true ∧ Q (!ds.any fun z => PyData.eqv z d) h
  | .ninX, x, y, h, Q => ∃ d ds xs, Dat h d x ∧ lstOf h y = some xs ∧ Dats h ds xs ∧ SeqAt.shaped d = true ∧ SeqAt.shaped (.list ds) = true ∧ Q (!ds.any fun z => PyData.eqv z d) h
  | .isN, x, .bl b, h, Q => notRef x = true ∧ Q (isBlB b x) h
  | .notN, x, .bl b, h, Q => notRef x = true ∧ Q (!isBlB b x) h
  | .eq, x, y, h, Q => (∃ d e, Dat h d x ∧ Dat h e y ∧ SeqAt.shaped d = true ∧ SeqAt.shaped e = true ∧ Q (PyData.eqv d e) h) ∨ ∃ a b xs ys, x = .ref a ∧ y = .ref b ∧ lstOf h (.ref a) = some xs ∧ lstOf h (.ref b) = some ys ∧ xs.length ≠ ys.length ∧ Q false h
  | .ne, x, y, h, Q => (∃ d e, Dat h d x ∧ Dat h e y ∧ SeqAt.shaped d = true ∧ SeqAt.shaped e = true ∧ Q (!PyData.eqv d e) h) ∨ ∃ a b xs ys, x = .ref a ∧ y = .ref b ∧ lstOf h (.ref a) = some xs ∧ lstOf h (.ref b) = some ys ∧ xs.length ≠ ys.length ∧ Q true h
  | .lt, .int i, .int j, h, Q => Q (decide (i < j)) h
  | .le, .int i, .int j, h, Q => Q (decide (i ≤ j)) h
  | .gt, .int i, .int j, h, Q => Q (decide (j < i)) h
  | .ge, .int i, .int j, h, Q => Q (decide (j ≤ i)) h
  | .isN, x, .non, h, Q => Q (isNonB x) h
  | .notN, x, .non, h, Q => Q (!isNonB x) h
  | _, _, _, _, _ => False
def putD (k v : PV) (kvs : List (PV × PV)) : List (PV × PV) := if (kvs.any fun p => eqK p.1 k) = true then kvs.map (fun p => if eqK p.1 k = true then (p.1, v) else p) else kvs ++ [(k, v)]
def idxV : PV → PV → PH → KQ → Prop
  | .tup xs, .int i, h, Q => ∃ v, atI xs i = some v ∧ Q v h
  | .str s, .int i, h, Q => s.length ≤ SZ ∧ ∃ c, atI s.cps.toList i = some c ∧ Q (.str ⟨#[c]⟩) h
  | .ref a, .int i, h, Q => ∃ xs v, lstOf h (.ref a) = some xs ∧ atI xs i = some v ∧ Q v h
  | .ref a, .str k, h, Q => ∃ kvs v, dicAt h a = some kvs ∧ lookD (.str k) kvs = some v ∧ Q v h
  | _, _, _, _ => False
/-- a dict with another one's entries put into it -/
def mergeU (kvs more : List (PV × PV)) : List (PV × PV) := more.foldl (fun acc p => putD p.1 p.2 acc) kvs
/-- a dict, by a key of either sort -/
def dxiV (x y : PV) (h : PH) (Q : KQ) : Prop := match x with
  | .ref a => isK y = true ∧ ∃ kvs v, dicAt h a = some kvs ∧ lookD y kvs = some v ∧ Q v h
  | _ => False
/-- a dict of pairs -/
def mergeP (kvs : List (PV × PV)) : List (PV × PV) → List (PV × PV)
  | [] => kvs
  | (k, v) :: r => mergeP (putD k v kvs) r
/-- a written dict -/
def mergeD (kvs : List (PV × PV)) : List Str → List PV → List (PV × PV)
  | k :: ks, v :: vs => mergeD (putD (.str k) v kvs) ks vs
  | _, _ => kvs
/-- o[i] = v -/
def putV (x y v : PV) (h : PH) (Q : PH → Prop) : Prop := match x with
  | .ref p => match h[p]? with
    | some (.lst xs) => ∃ k j, y = .int k ∧ ixN xs.length k = some j ∧ Q (h.set p (.lst (xs.set j v)))
    | some (.dic kvs) => isK y = true ∧ kvs.length < SZ ∧ Q (h.set p (.dic (putD y v kvs)))
    | _ => False
  | _ => False
def slcV : PV → Option Int → Option Int → PH → KQ → Prop
  | .tup xs, lo, hi, h, Q => Q (.tup (cut xs lo hi)) h
  | .str s, lo, hi, h, Q => s.length ≤ SZ ∧ Q (.str ⟨(cut s.cps.toList lo hi).toArray⟩) h
  | .ref a, lo, hi, h, Q => ∃ xs, lstOf h (.ref a) = some xs ∧ Q (.ref h.length) (h ++ [.lst (cut xs lo hi)])
  | _, _, _, _, _ => False

/-! ### built-in functions, methods -/
/-- the type of a value -/
def tyN (h : PH) : PV → Option String
  | .non => some "NoneType"
  | .bl _ => some "bool"
  | .int _ => some "int"
  | .str _ => some "str"
  | .tup _ => some "tuple"
  | .ref a => match h[a]? with
    | some (.lst _) => some "list"
    | some (.frl _) => some "list"
    | some (.dic _) => some "dict"
    | some (.frd _) => some "dict"
    | _ => none
def isB (T : String) (t : String) : Bool := t == T || (T == "int" && t == "bool")
def tyOf : BF → String
  | .isInt => "int"
  | .isBool => "bool"
  | .isStr => "str"
  | .isList => "list"
  | _ => "tuple"
def bfV : BF → List PV → PH → KQ → Prop
  | .len, [.str s], h, Q => s.length ≤ SZ ∧ Q (.int s.length) h
  | .len, [v], h, Q => ∃ xs, seqOf h v = some xs ∧ Q (.int xs.length) h
  | .list1, [v], h, Q => ∃ xs, seqOf h v = some xs ∧ Q (.ref h.length) (h ++ [.lst xs])
  | .tuple1, [.tup xs], h, Q => Q (.tup xs) h
  | .tuple1, [v], h, Q => ∃ xs, lstOf h v = some xs ∧ Q (.tup xs) h
  | .min2, [.int i, .int j], h, Q => Q (.int (if j < i then j else i)) h
  | .max2, [.int i, .int j], h, Q => Q (.int (if j > i then j else i)) h
  | .int1, [.int i], h, Q => Q (.int i) h
  | .int1, [.bl b], h, Q => Q (.int (if b then 1 else 0)) h
  | .str1, [.int i], h, Q => i.natAbs.log2 < 1920 ∧ Q (.str (toString i)) h
  | .str1, [.str a], h, Q => Q (.str a) h
  | .dict1, [v], h, Q => ∃ prs : List (PV × PV), lstOf h v = some (prs.map fun p => .tup [p.1, p.2]) ∧ (prs.all fun p => isK p.1) = true ∧ Q (.ref h.length) (h ++ [.dic (mergeP [] prs)])
  | .listD, [v], h, Q => ∃ a kvs, v = .ref a ∧ dicAt h a = some kvs ∧ Q (.ref h.length) (h ++ [.lst (kvs.map (·.1))])
  | .tupleP, [v], h, Q => ∃ xs, lstOf h v = some xs ∧ Q (.ref h.length) (h ++ [.tpl xs])
  | .dictD, [v], h, Q => ∃ a kvs, v = .ref a ∧ dicAt h a = some kvs ∧ Q (.ref h.length) (h ++ [.dic kvs])
  | .sortD, [v], h, Q => ∃ a kvs ks, v = .ref a ∧ dicAt h a = some kvs ∧ kvs.map (·.1) = ks.map PV.str ∧ ks.length < 64 ∧ ∀ ys, ys.Perm ks → PyProof.Rows.sortedS ys = true → Q (.ref h.length) (h ++ [.lst (ys.map PV.str)])
  | .dictT, [v], h, Q => ∃ (a : Nat) (prs : List (PV × PV)), v = .ref a ∧ h[a]? = some (.tpl (prs.map fun p => .tup [p.1, p.2])) ∧ (prs.all fun p => isK p.1) = true ∧ Q (.ref h.length) (h ++ [.dic (mergeP [] prs)])
  | .repr1, [.bl b], h, Q => Q (.str (Str.ofString (if b then "True" else "False"))) h
  | .repr1, [.str x], h, Q => (reprText x).length ≤ 16777216 ∧ Q (.str (reprText x)) h
  | .repr1, [.int i], h, Q => i.natAbs.log2 < 1920 ∧ Q (.str (Str.ofString (toString i))) h
  | .repr1, [.non], h, Q => Q (.str (Str.ofString "None")) h
  | .repr1, [v], h, Q => ∃ d, notRef v = false ∧ Dat h d v ∧ SeqAt.shaped d = true ∧ d.showable = true ∧ d.shown.length ≤ SZ ∧ Q (.str d.shown) h
  | .abs, [.int i], h, Q => Q (.int (if i < 0 then -i else i)) h
  | .sumL, [v], h, Q => ∃ ns : List Int, lstOf h v = some (ns.map PV.int) ∧ Q (.int ns.sum) h
  | .maxL, [v], h, Q => ∃ (ns : List Int) (m : Int), lstOf h v = some (ns.map PV.int) ∧ m ∈ ns ∧ (∀ y ∈ ns, y ≤ m) ∧ Q (.int m) h
  | .minL, [v], h, Q => ∃ (ns : List Int) (m : Int), lstOf h v = some (ns.map PV.int) ∧ m ∈ ns ∧ (∀ y ∈ ns, m ≤ y) ∧ Q (.int m) h
  | .all1, [v], h, Q => ∃ bs : List Bool, lstOf h v = some (bs.map PV.bl) ∧ Q (.bl (bs.all id)) h
  | _, _, _, _ => False
/-- the type of a method's receiver -/
def bmT : BM → String
  | .append => "list" | .extend => "list" | .pop0 => "list" | .pop1 => "list" | .insert => "list" | .reverse => "list" | .clear => "list" | .index => "list" | .indexX => "list" | .get1 => "dict" | .get2 => "dict" | .update => "dict" | _ => "str"
def bmV : BM → PV → List PV → PH → KQ → Prop
  | .append, .ref a, [y], h, Q => ∃ xs, h[a]? = some (.lst xs) ∧ xs.length < SZ ∧ Q .non (h.set a (.lst (xs ++ [y])))
  | .extend, .ref a, [.ref b], h, Q => ∃ xs ys, h[a]? = some (.lst xs) ∧ h[b]? = some (.lst ys) ∧ xs.length + ys.length ≤ SZ ∧ Q .non (h.set a (.lst (xs ++ ys)))
  | .pop0, .ref a, [], h, Q => ∃ xs y, h[a]? = some (.lst xs) ∧ xs[xs.length - 1]? = some y ∧ Q y (h.set a (.lst xs.dropLast))
  | .insert, .ref a, [.int i, y], h, Q => ∃ xs, h[a]? = some (.lst xs) ∧ xs.length < SZ ∧ (0 ≤ i ∧ i < 2 ^ 62) ∧ Q .non (h.set a (.lst (xs.take i.toNat ++ [y] ++ xs.drop i.toNat)))
  | .index, .ref a, [y], h, Q => ∃ xs j z, lstOf h (.ref a) = some xs ∧ (flP y = true ∧ xs.all flP = true) ∧ xs[j]? = some z ∧ eqP z y = true ∧ (∀ m z', m < j → xs[m]? = some z' → eqP z' y = false) ∧ Q (.int (j : Nat)) h
  | .indexX, .ref a, [y], h, Q => ∃ xs d ds j z, lstOf h (.ref a) = some xs ∧ (Dats h ds xs ∧ Dat h d y ∧ SeqAt.shaped (.list ds) = true ∧ SeqAt.shaped d = true) ∧ ds[j]? = some z ∧ PyData.eqv z d = true ∧ (∀ m z', m < j → ds[m]? = some z' → PyData.eqv z' d = false) ∧ Q (.int (j : Nat)) h
  | .reverse, .ref a, [], h, Q => ∃ xs, h[a]? = some (.lst xs) ∧ Q .non (h.set a (.lst xs.reverse))
  | .clear, .ref a, [], h, Q => ∃ xs, h[a]? = some (.lst xs) ∧ Q .non (h.set a (.lst []))
  | .pop1, .ref a, [.int i], h, Q => ∃ xs j y, h[a]? = some (.lst xs) ∧ (-(2 ^ 63) ≤ i ∧ i < 2 ^ 63) ∧ seqIndex? i xs.length = some j ∧ xs[j]? = some y ∧ Q y (h.set a (.lst (xs.eraseIdx j)))
  | .join, .str a, [v], h, Q => ∃ ys : List Str, seqOf h v = some (ys.map PV.str) ∧ (ys.map (·.length)).sum + ys.length * a.length ≤ 16777216 ∧ Q (.str (Txt.join a ys)) h
  | .split, .str a, [.str b], h, Q => (b.length == 0) = false ∧ a.length + 2 ≤ SZ ∧ Q (.ref h.length) (h ++ [.lst ((Txt.split a b).map PV.str)])
  | .startswith, .str a, [.str b], h, Q => Q (.bl (Txt.startswith a b)) h
  | .isalnum, .str a, [], h, Q => Q (.bl (Txt.isalnum a)) h
  | .upper, .str a, [], h, Q => a.length ≤ 5592405 ∧ Q (.str (Txt.upper a)) h
  | .sindex, .str a, [.str b], h, Q => ∃ i rest, Builtin.Str.occurrences a b 0 a.length 1 = i :: rest ∧ Q (.int (i : Nat)) h
  | _, _, _, _, _ => False

/-! ### programs -/
structure FD where
  np : Nat
  ns : Nat
  body : B
  dfl : List PV := []
  kw : Option Nat := none
structure CD where
  init : Nat
  meths : List (Nat × Nat)
  fields : List Nat
  base : Bool
  bare : Bool
structure Sig where
  fn : Nat → Option FD
  cls : Nat → Option CD
  con : Nat → Option PV
def getM (m : Nat) : List (Nat × Nat) → Option Nat
  | [] => none
  | (g, x) :: r => if g = m then some x else getM m r
inductive FR where
  | fn (f : Nat) | mk (c : Nat)
abbrev CS := FR → List PV → PH → KQ → KX → Prop

def iterL (live : PH → Prop) (body : PV → Loc → PH → (Loc → PH → Prop) → Prop) (fin : Loc → PH → Prop) : List PV → Loc → PH → Prop
  | [], l, h => live h ∧ fin l h
  | x :: r, l, h => live h ∧ body x l h fun l' h' => iterL live body fin r l' h'
def compL (live : PH → Prop) (d : Nat) (body : PV → PH → (Option PV → PH → Prop) → Prop) (fin : PH → Prop) : List PV → PH → Prop
  | [], h => live h ∧ fin h
  | x :: r, h => live h ∧ body x h fun o h' => match o with
    | none => compL live d body fin r h'
    | some y => ∃ acc, h'[d]? = some (.lst acc) ∧ acc.length < SZ ∧ compL live d body fin r (h'.set d (.lst (acc ++ [y])))
def whlN (step : Loc → PH → (Loc → PH → Prop) → Prop) : Nat → Loc → PH → Prop
  | 0, _, _ => False
  | n + 1, l, h => step l h fun l' h' => whlN step n l' h'
abbrev KI := List PV → (PH → Prop) → PH → Prop
def liveL (v : PV) (xs : List PV) : PH → Prop := fun h => match v with
  | .ref _ => lstOf h v = some xs
  | _ => True
def itemsOf (h : PH) : PV → Option (List PV)
  | .str s => some (s.cps.toList.map fun c => .str ⟨#[c]⟩)
  | v => seqOf h v
def enumFrom (n : Nat) : List PV → List PV
  | [] => []
  | x :: r => .tup [.int n, x] :: enumFrom (n + 1) r
def zipT : List PV → List PV → List PV
  | x :: xs, y :: ys => .tup [x, y] :: zipT xs ys
  | _, _ => []
def rangeL (lo : Int) (n : Nat) : List PV := (List.range n).map fun k => .int (lo + (k : Nat))

def lenTs : Ts → Nat
  | .nil => 0
  | .cons _ ts => lenTs ts + 1
mutual
/-- the names of a target -/
def tNs : T → List Nat
  | .nm i => [i]
  | .tup ts => tsNs ts
  | _ => []
def tsNs : Ts → List Nat
  | .nil => []
  | .cons t ts => tNs t ++ tsNs ts
end
def wipeL (l : Loc) : List Nat → Loc
  | [] => l
  | v :: vs => (wipeL l vs).set v none
structure En where
  nx : Loc → PH → Prop
  rt : KQ
  ct : Loc → PH → Prop
  ex : XV → Loc → PH → Prop

mutual
def evE (G : Sig) (cs : CS) (X : KX) : E → Loc → PH → KQ → Prop
  | .var i, l, h, Q => ∃ v, l[i]? = some (some v) ∧ Q v h
  | .int i, _, h, Q => Q (.int i) h
  | .str s, _, h, Q => Q (.str s) h
  | .bl b, _, h, Q => Q (.bl b) h
  | .non, _, h, Q => Q .non h
  | .glob g, _, h, Q => ∃ v, G.con g = some v ∧ Q v h
  | .bin o a b, l, h, Q => evE G cs X a l h fun x h1 => evE G cs X b l h1 fun y h2 => binV o x y h2 Q
  | .neg a, l, h, Q => evE G cs X a l h fun x h1 => ∃ i, x = .int i ∧ Q (.int (-i)) h1
  | .nt a, l, h, Q => evE G cs X a l h fun x h1 => ∃ b, x = .bl b ∧ Q (.bl (!b)) h1
  | .and a b, l, h, Q => evE G cs X a l h fun x h1 => ∃ c, x = .bl c ∧ if c = true then evE G cs X b l h1 Q else Q (.bl false) h1
  | .or a b, l, h, Q => evE G cs X a l h fun x h1 => ∃ c, x = .bl c ∧ if c = true then Q (.bl true) h1 else evE G cs X b l h1 Q
  | .cmp o a b, l, h, Q => evE G cs X a l h fun x h1 => evE G cs X b l h1 fun y h2 => cmpV o x y h2 fun r h3 => Q (.bl r) h3
  | .chain o o' a b c, l, h, Q => evE G cs X a l h fun x h1 => evE G cs X b l h1 fun y h2 => cmpV o x y h2 fun r h3 =>
      if r = true then evE G cs X c l h3 fun z h4 => cmpV o' y z h4 fun r' h5 => Q (.bl r') h5 else Q (.bl false) h3
  | .ite c a b, l, h, Q => evT G cs X c l h fun r h1 => if r = true then evE G cs X a l h1 Q else evE G cs X b l h1 Q
  | .tup es, l, h, Q => evEs G cs X es l h fun xs h1 => xs.length ≤ SZ ∧ Q (.tup xs) h1
  | .lst es, l, h, Q => evEs G cs X es l h fun xs h1 => xs.length ≤ SZ ∧ Q (.ref h1.length) (h1 ++ [.lst xs])
  | .dic0, _, h, Q => Q (.ref h.length) (h ++ [.dic []])
  | .idx a b, l, h, Q => evE G cs X a l h fun x h1 => evE G cs X b l h1 fun y h2 => idxV x y h2 Q
  | .dxi a b, l, h, Q => evE G cs X a l h fun x h1 => evE G cs X b l h1 fun y h2 => dxiV x y h2 Q
  | .slc a lo hi, l, h, Q => evE G cs X a l h fun x h1 => evO G cs X lo l h1 fun u h2 => evO G cs X hi l h2 fun w h3 => slcV x u w h3 Q
  | .attr a f, l, h, Q => evE G cs X a l h fun x h1 => ∃ p c fs v cd, x = .ref p ∧ h1[p]? = some (.ins c fs) ∧ G.cls c = some cd ∧ cd.fields.contains f = true ∧ getN f fs = some v ∧ Q v h1
  | .call f args, l, h, Q => evEs G cs X args l h fun xs h1 => cs (.fn f) xs h1 Q X
  | .mk c args, l, h, Q => evEs G cs X args l h fun xs h1 => cs (.mk c) xs h1 Q X
  | .mkK c args e, l, h, Q => evEs G cs X args l h fun xs h1 => evE G cs X e l h1 fun z h2 => ∃ cd d, G.cls c = some cd ∧ G.fn cd.init = some d ∧ d.kw.isSome = true ∧ xs.length + 2 ≤ d.np ∧ d.np - 2 - xs.length ≤ d.dfl.length - 1 ∧
      cs (.mk c) (xs ++ d.dfl.dropLast.drop (d.dfl.length - 1 - (d.np - 2 - xs.length)) ++ [z]) h2 Q X
  | .dicl ks vs, l, h, Q => evEs G cs X vs l (h ++ [.dic []]) fun xs h2 => h2[h.length]? = some (.dic []) ∧ xs.length = ks.length ∧ ks.length ≤ 15 ∧ Q (.ref h.length) (h2.set h.length (.dic (mergeD [] ks xs)))
  | .slr a, l, h, Q => evE G cs X a l h fun x h1 => ∃ p xs, x = .ref p ∧ lstOf h1 (.ref p) = some xs ∧ Q (.ref h1.length) (h1 ++ [.lst xs.reverse])
  | .meth o m args, l, h, Q => evE G cs X o l h fun x h1 => ∃ p c fs cd f, x = .ref p ∧ h1[p]? = some (.ins c fs) ∧ G.cls c = some cd ∧ getM m cd.meths = some f ∧
      evEs G cs X args l h1 fun xs h2 => cs (.fn f) (x :: xs) h2 Q X
  | .ini c args, l, h, Q => ∃ cd, G.cls c = some cd ∧ evEs G cs X args l h fun xs h1 => cs (.fn cd.init) xs h1 Q X
  | .mk0 c, _, h, Q => ∃ cd, G.cls c = some cd ∧ cd.bare = true ∧ Q (.ref h.length) (h ++ [.ins c []])
  | .lrg1 a, l, h, Q => evE G cs X a l h fun x h1 => ∃ j, x = .int j ∧ (0 ≤ j ∧ j ≤ SZ) ∧ Q (.ref h1.length) (h1 ++ [.lst (rangeL 0 j.toNat)])
  | .isi f a, l, h, Q => evE G cs X a l h fun x h1 => ∃ t, tyN h1 x = some t ∧ Q (.bl (isB (tyOf f) t)) h1
  | .bf f args, l, h, Q => evEs G cs X args l h fun xs h1 => bfV f xs h1 Q
  | .bm m o args, l, h, Q => evE G cs X o l h fun x h1 => tyN h1 x = some (bmT m) ∧ evEs G cs X args l h1 fun xs h2 => bmV m x xs h2 Q
  | .lc elt t it cond, l, h, Q => evI G cs X it l h fun items live h1 =>
      compL live h1.length (fun x h2 k => evG G cs (fun _ _ => False) t x (wipeL l (tNs t)) h2 fun l' h3 => evC G cs (fun _ _ => False) cond l' h3 fun b h4 =>
        if b = true then evE G cs (fun _ _ => False) elt l' h4 fun y h5 => k (some y) h5 else k none h4) (fun h2 => Q (.ref h1.length) h2) items (h1 ++ [.lst []])
  | .dup o a, l, h, Q => evE G cs X o l h fun x h1 => tyN h1 x = some "dict" ∧ evE G cs X a l h1 fun y h2 => ∃ p r kvs more, x = .ref p ∧ y = .ref r ∧ p ≠ r ∧ h2[p]? = some (.dic kvs) ∧ h2[r]? = some (.dic more) ∧ kvs.length + more.length ≤ SZ ∧ Q .non (h2.set p (.dic (mergeU kvs more)))
  | .dget o a b, l, h, Q => evE G cs X o l h fun x h1 => tyN h1 x = some "dict" ∧ evE G cs X a l h1 fun y h2 => evE G cs X b l h2 fun z h3 => ∃ p kvs, x = .ref p ∧ dicAt h3 p = some kvs ∧ isK y = true ∧ Q ((lookD y kvs).getD z) h3
  | .dg1 o a, l, h, Q => evE G cs X o l h fun x h1 => tyN h1 x = some "dict" ∧ evE G cs X a l h1 fun y h2 => ∃ p kvs, x = .ref p ∧ dicAt h2 p = some kvs ∧ isK y = true ∧ Q ((lookD y kvs).getD .non) h2
  | .lzip a b, l, h, Q => evE G cs X a l h fun x h1 => evE G cs X b l h1 fun y h2 => ∃ xs ys, lstOf h2 x = some xs ∧ lstOf h2 y = some ys ∧ xs.length = ys.length ∧ Q (.ref h2.length) (h2 ++ [.lst (zipT xs ys)])
  | .dzip a b, l, h, Q => evE G cs X a l h fun x h1 => evE G cs X b l h1 fun y h2 => ∃ xs ys, lstOf h2 x = some xs ∧ lstOf h2 y = some ys ∧ xs.length = ys.length ∧ xs.all isK = true ∧ Q (.ref h2.length) (h2 ++ [.dic (mergeP [] (xs.zip ys))])
  | .co e, l, h, Q => evE G cs X e l h fun v h1 => Q v h1 ∨ ∃ a xs, v = .ref a ∧ h1[a]? = some (.tpl xs) ∧ Q (.tup xs) h1
  | .lke e, l, h, Q => evE G cs X e l h Q ∨ ∃ a kvs, h[a]? = some (.dic kvs) ∧ evE G cs (fun _ _ => False) e l (h.set a (.frd kvs)) fun v h' => h'[a]? = some (.frd kvs) ∧ Q v (h'.set a (.dic kvs))
def evEs (G : Sig) (cs : CS) (X : KX) : Es → Loc → PH → (List PV → PH → Prop) → Prop
  | .nil, _, h, Q => Q [] h
  | .cons e es, l, h, Q => evE G cs X e l h fun x h1 => evEs G cs X es l h1 fun xs h2 => Q (x :: xs) h2
def evO (G : Sig) (cs : CS) (X : KX) : OE → Loc → PH → (Option Int → PH → Prop) → Prop
  | .no, _, h, Q => Q none h
  | .so e, l, h, Q => evE G cs X e l h fun x h1 => ∃ i, x = .int i ∧ Q (some i) h1
def evC (G : Sig) (cs : CS) (X : KX) : OC → Loc → PH → (Bool → PH → Prop) → Prop
  | .no, _, h, Q => Q true h
  | .so c, l, h, Q => evT G cs X c l h Q
/-- a test -/
def evT (G : Sig) (cs : CS) (X : KX) : C → Loc → PH → (Bool → PH → Prop) → Prop
  | .v e, l, h, Q => evE G cs X e l h fun x h1 => ∃ b, truV h1 x = some b ∧ Q b h1
  | .cmp o a b, l, h, Q => evE G cs X a l h fun x h1 => evE G cs X b l h1 fun y h2 => cmpV o x y h2 Q
  | .chain o o' a b c, l, h, Q => evE G cs X a l h fun x h1 => evE G cs X b l h1 fun y h2 => cmpV o x y h2 fun r h3 =>
      if r = true then evE G cs X c l h3 fun z h4 => cmpV o' y z h4 Q else Q false h3
  | .nt a, l, h, Q => evT G cs X a l h fun b h1 => Q (!b) h1
  | .and a b, l, h, Q => evT G cs X a l h fun c h1 => if c = true then evT G cs X b l h1 Q else Q false h1
  | .or a b, l, h, Q => evT G cs X a l h fun c h1 => if c = true then Q true h1 else evT G cs X b l h1 Q
def evI (G : Sig) (cs : CS) (X : KX) : I → Loc → PH → KI → Prop
  | .seq e, l, h, R => evE G cs X e l h fun x h1 => ∃ xs, itemsOf h1 x = some xs ∧ R xs (liveL x xs) h1
  | .rng1 a, l, h, R => evE G cs X a l h fun x h1 => ∃ j, x = .int j ∧ (-(2 ^ 62) ≤ j ∧ j < 2 ^ 62) ∧ R (rangeL 0 j.toNat) (fun _ => True) h1
  | .rng2 a b, l, h, R => evE G cs X a l h fun x h1 => evE G cs X b l h1 fun y h2 => ∃ i j, x = .int i ∧ y = .int j ∧ (-(2 ^ 62) ≤ i ∧ i < 2 ^ 62 ∧ -(2 ^ 62) ≤ j ∧ j < 2 ^ 62) ∧ R (rangeL i (j - i).toNat) (fun _ => True) h2
  | .enu e, l, h, R => evE G cs X e l h fun x h1 => ∃ xs, lstOf h1 x = some xs ∧ R (enumFrom 0 xs) (liveL x xs) h1
  | .zip2 a b, l, h, R => evE G cs X a l h fun x h1 => evE G cs X b l h1 fun y h2 => ∃ xs ys, seqOf h2 x = some xs ∧ lstOf h2 y = some ys ∧ R (zipT xs ys) (fun h => liveL x xs h ∧ liveL y ys h) h2
  | .rev e, l, h, R => evE G cs X e l h fun x h1 => ∃ xs, lstOf h1 x = some xs ∧ R xs.reverse (liveL x xs) h1
  | .keys e, l, h, R => evE G cs X e l h fun x h1 => ∃ a kvs, x = .ref a ∧ h1[a]? = some (.frd kvs) ∧ R (kvs.map (·.1)) (fun h => h[a]? = some (.frd kvs)) h1
/-- a target takes a value -/
def evG (G : Sig) (cs : CS) (X : KX) : T → PV → Loc → PH → (Loc → PH → Prop) → Prop
  | .nm i, v, l, h, Q => i < l.length ∧ Q (l.set i (some v)) h
  | .tup ts, v, l, h, Q => ∃ xs, seqOf h v = some xs ∧ xs.length = lenTs ts ∧ evGs G cs X ts xs l h Q
  | .attr o f, v, l, h, Q => evE G cs X o l h fun x h1 => ∃ p c fs cd, x = .ref p ∧ h1[p]? = some (.ins c fs) ∧ G.cls c = some cd ∧ cd.fields.contains f = true ∧ fs.length < 900 ∧ Q l (h1.set p (.ins c (putN f v fs)))
  | .sub o i, v, l, h, Q => evE G cs X o l h fun x h1 => evE G cs X i l h1 fun y h2 => putV x y v h2 (Q l)
def evGs (G : Sig) (cs : CS) (X : KX) : Ts → List PV → Loc → PH → (Loc → PH → Prop) → Prop
  | .nil, vs, l, h, Q => vs = [] ∧ Q l h
  | .cons t ts, vs, l, h, Q => ∃ v r, vs = v :: r ∧ evG G cs X t v l h fun l' h' => evGs G cs X ts r l' h' Q
end
/-- the ends behind a statement under a lock -/
def lkD (D : En) (a : Nat) (kvs : List (PV × PV)) : En := ⟨fun l' h' => h'[a]? = some (.frd kvs) ∧ D.nx l' (h'.set a (.dic kvs)), fun v h' => h'[a]? = some (.frd kvs) ∧ D.rt v (h'.set a (.dic kvs)), fun l' h' => h'[a]? = some (.frd kvs) ∧ D.ct l' (h'.set a (.dic kvs)), fun _ _ _ => False⟩
def augV : BO → PV → PV → PH → KQ → Prop
  | .add, .int i, .int j, h, Q => Q (.int (i + j)) h
  | .add, .str i, .str j, h, Q => i.length + j.length ≤ SZ ∧ Q (.str (i ++ j)) h
  | .sub, .int i, .int j, h, Q => Q (.int (i - j)) h
  | _, _, _, _, _ => False
mutual
def evS (G : Sig) (cs : CS) : S → Loc → PH → En → Prop
  | .asg t e, l, h, D => evE G cs (fun x h' => D.ex x l h') e l h fun v h1 => evG G cs (fun x h' => D.ex x l h') t v l h1 D.nx
  | .aug i o e, l, h, D => ∃ x, l[i]? = some (some x) ∧ evE G cs (fun x h' => D.ex x l h') e l h fun y h1 => augV o x y h1 fun z h2 => D.nx (l.set i (some z)) h2
  | .augF ob f o e, l, h, D => evE G cs (fun x h' => D.ex x l h') ob l h fun x h1 => ∃ p c fs v cd, x = .ref p ∧ h1[p]? = some (.ins c fs) ∧ G.cls c = some cd ∧ cd.fields.contains f = true ∧ getN f fs = some v ∧
      evE G cs (fun x h' => D.ex x l h') e l h1 fun y h2 => augV o v y h2 fun z h3 => ∃ fs', h3[p]? = some (.ins c fs') ∧ fs'.length < 900 ∧ D.nx l (h3.set p (.ins c (putN f z fs')))
  | .augS ob ix o e, l, h, D => evE G cs (fun x h' => D.ex x l h') ob l h fun x h1 => evE G cs (fun x h' => D.ex x l h') ix l h1 fun y h2 => ∃ p k xs v, x = .ref p ∧ y = .int k ∧ h2[p]? = some (.lst xs) ∧ atI xs k = some v ∧
      evE G cs (fun x h' => D.ex x l h') e l h2 fun u h3 => augV o v u h3 fun z h4 => ∃ ys j, h4[p]? = some (.lst ys) ∧ ixN ys.length k = some j ∧ D.nx l (h4.set p (.lst (ys.set j z)))
  | .exp e, l, h, D => evE G cs (fun x h' => D.ex x l h') e l h fun _ h1 => D.nx l h1
  | .ret e, l, h, D => evE G cs (fun x h' => D.ex x l h') e l h D.rt
  | .retN, _, h, D => D.rt .non h
  | .ife c a b, l, h, D => evT G cs (fun x h' => D.ex x l h') c l h fun r h1 => if r = true then evB G cs a l h1 D else evB G cs b l h1 D
  | .for t it b, l, h, D => evI G cs (fun x h' => D.ex x l h') it l h fun items live h1 =>
      iterL live (fun v l' h' k => evG G cs (fun x h' => D.ex x l' h') t v l' h' fun l2 h2 => evB G cs b l2 h2 { D with nx := k, ct := k }) D.nx items l h1
  | .whl c b, l, h, D => ∃ n, whlN (fun l' h' k => evT G cs (fun x h' => D.ex x l' h') c l' h' fun r h1 => if r = true then evB G cs b l' h1 { D with nx := k, ct := k } else D.nx l' h1) n l h
  | .pas, l, h, D => D.nx l h
  | .cont, l, h, D => D.ct l h
  | .rais _ _, _, _, _ => False
  | .rai0, _, _, _ => False
  | .augD ob ix o e, l, h, D => evE G cs (fun x h' => D.ex x l h') ob l h fun x h1 => evE G cs (fun x h' => D.ex x l h') ix l h1 fun y h2 => ∃ p kvs v, x = .ref p ∧ isK y = true ∧ h2[p]? = some (.dic kvs) ∧ lookD y kvs = some v ∧
      evE G cs (fun x h' => D.ex x l h') e l h2 fun u h3 => augV o v u h3 fun z h4 => ∃ kvs', h4[p]? = some (.dic kvs') ∧ kvs'.length < SZ ∧ D.nx l (h4.set p (.dic (putD y z kvs')))
  | .lks s, l, h, D => evS G cs s l h D ∨ ∃ a kvs, h[a]? = some (.dic kvs) ∧ evS G cs s l (h.set a (.frd kvs)) (lkD D a kvs)
def evB (G : Sig) (cs : CS) : B → Loc → PH → En → Prop
  | .nil, l, h, D => D.nx l h
  | .cons s b, l, h, D => evS G cs s l h { D with nx := fun l' h' => evB G cs b l' h' D }
end
def fill (dfl args : List PV) (n : Nat) : List PV := args ++ dfl.drop (dfl.length - (n - args.length))
def startL (d : FD) (vs : List PV) : Loc := vs.map some ++ List.replicate (d.ns - vs.length) none
/-- the calls, to a depth -/
def callS (G : Sig) : Nat → CS
  | 0, _, _, _, _, _ => False
  | k + 1, .fn f, args, h, Q, X => ∃ d, G.fn f = some d ∧ (fill d.dfl args d.np).length = d.np ∧ args.length ≤ d.np ∧
      evB G (callS G k) d.body (startL d (fill d.dfl args d.np)) h ⟨fun _ h' => Q .non h', Q, fun _ _ => False, fun x _ h' => X x h'⟩
  | k + 1, .mk c, args, h, Q, X => ∃ cd, G.cls c = some cd ∧ callS G k (.fn cd.init) (.ref h.length :: args) (h ++ [.ins c []]) (fun v h' => v = .non ∧ Q (.ref h.length) h') X

/-! ### monotonicity -/
def CSm (cs : CS) : Prop := ∀ f xs h (Q Q' : KQ) (X X' : KX), (∀ v h, Q v h → Q' v h) → (∀ v h, X v h → X' v h) → cs f xs h Q X → cs f xs h Q' X'
theorem binV_mono : ∀ {o : BO} {x y : PV} {h : PH} {Q Q' : KQ}, (∀ v h, Q v h → Q' v h) → binV o x y h Q → binV o x y h Q' := by
  intro o x y h Q Q' k q
  unfold binV at q ⊢
  split at q
  · exact k _ _ q
  · exact ⟨q.1, k _ _ q.2⟩
  · exact ⟨q.1, k _ _ q.2⟩
  · obtain ⟨xs, ys, a, b, c, q⟩ := q; exact ⟨xs, ys, a, b, c, k _ _ q⟩
  · exact k _ _ q
  · exact ⟨q.1, k _ _ q.2⟩
  · exact ⟨q.1, k _ _ q.2⟩
  · exact ⟨q.1, k _ _ q.2⟩
  · obtain ⟨xs, a, b, c, d, q⟩ := q; exact ⟨xs, a, b, c, d, k _ _ q⟩
  · exact ⟨q.1, q.2.1, k _ _ q.2.2⟩
  · exact ⟨q.1, k _ _ q.2⟩
  · exact ⟨q.1, k _ _ q.2⟩
  · exact q.elim
theorem augV_mono : ∀ {o : BO} {x y : PV} {h : PH} {Q Q' : KQ}, (∀ v h, Q v h → Q' v h) → augV o x y h Q → augV o x y h Q' := by
  intro o x y h Q Q' k q
  unfold augV at q ⊢
  split at q
  · exact k _ _ q
  · exact ⟨q.1, k _ _ q.2⟩
  · exact k _ _ q
  · exact q.elim
theorem cmpV_mono : ∀ {o : CO} {x y : PV} {h : PH} {Q Q' : Bool → PH → Prop}, (∀ v h, Q v h → Q' v h) → cmpV o x y h Q → cmpV o x y h Q' := by
  intro o x y h Q Q' k q
  unfold cmpV at q ⊢
  split at q
  all_goals first | exact k _ _ q | exact q.elim | (rcases q with ⟨d, e, a, b, c, c', q⟩ | ⟨d, e, u, w, a, b, c, c', c2, q⟩ <;> first | exact .inl ⟨d, e, a, b, c, c', k _ _ q⟩ | exact .inr ⟨d, e, u, w, a, b, c, c', c2, k _ _ q⟩) | (obtain ⟨d, e, a, b, c, c', q⟩ := q; exact ⟨d, e, a, b, c, c', k _ _ q⟩) | (obtain ⟨c, e, q⟩ := q; exact ⟨c, e, k _ _ q⟩) | (obtain ⟨xs, a, b, c, q⟩ := q; exact ⟨xs, a, b, c, k _ _ q⟩) | (obtain ⟨z, xs, a, b, c, q⟩ := q; exact ⟨z, xs, a, b, c, k _ _ q⟩) | (obtain ⟨d, ds, xs, a1, a2, a3, a4, a5, q⟩ := q; exact ⟨d, ds, xs, a1, a2, a3, a4, a5, k _ _ q⟩) | exact ⟨q.1, k _ _ q.2⟩
theorem dxiV_mono : ∀ {x y : PV} {h : PH} {Q Q' : KQ}, (∀ v h, Q v h → Q' v h) → dxiV x y h Q → dxiV x y h Q' := by
  intro x y h Q Q' k q
  unfold dxiV at q ⊢
  split at q
  · obtain ⟨a, kvs, v, b, c, q⟩ := q; exact ⟨a, kvs, v, b, c, k _ _ q⟩
  · exact q
theorem idxV_mono : ∀ {x y : PV} {h : PH} {Q Q' : KQ}, (∀ v h, Q v h → Q' v h) → idxV x y h Q → idxV x y h Q' := by
  intro x y h Q Q' k q
  unfold idxV at q ⊢
  split at q
  · obtain ⟨v, a, q⟩ := q; exact ⟨v, a, k _ _ q⟩
  · obtain ⟨z, c, a, q⟩ := q; exact ⟨z, c, a, k _ _ q⟩
  · obtain ⟨xs, v, a, b, q⟩ := q; exact ⟨xs, v, a, b, k _ _ q⟩
  · obtain ⟨xs, v, a, b, q⟩ := q; exact ⟨xs, v, a, b, k _ _ q⟩
  · exact q.elim
theorem putV_mono : ∀ {x y v : PV} {h : PH} {Q Q' : PH → Prop}, (∀ h, Q h → Q' h) → putV x y v h Q → putV x y v h Q' := by
  intro x y v h Q Q' k q
  unfold putV at q ⊢
  split at q
  · split at q
    · obtain ⟨a, b, c, d, q⟩ := q; exact ⟨a, b, c, d, k _ q⟩
    · exact ⟨q.1, q.2.1, k _ q.2.2⟩
    · exact q.elim
  · exact q.elim
theorem slcV_mono : ∀ {x : PV} {u w : Option Int} {h : PH} {Q Q' : KQ}, (∀ v h, Q v h → Q' v h) → slcV x u w h Q → slcV x u w h Q' := by
  intro x u w h Q Q' k q
  unfold slcV at q ⊢
  split at q
  · exact k _ _ q
  · exact ⟨q.1, k _ _ q.2⟩
  · obtain ⟨xs, a, q⟩ := q; exact ⟨xs, a, k _ _ q⟩
  · exact q.elim
theorem bfV_mono : ∀ {f : BF} {xs : List PV} {h : PH} {Q Q' : KQ}, (∀ v h, Q v h → Q' v h) → bfV f xs h Q → bfV f xs h Q' := by
  intro f xs h Q Q' k q
  unfold bfV at q ⊢
  split at q
  all_goals first | exact k _ _ q | (obtain ⟨z, a, b, q⟩ := q; exact ⟨z, a, b, k _ _ q⟩) | exact q.elim | exact ⟨q.1, k _ _ q.2⟩ | (obtain ⟨z, a, q⟩ := q; exact ⟨z, a, k _ _ q⟩) | (obtain ⟨d, a1, a2, a3, a4, a5, q⟩ := q; exact ⟨d, a1, a2, a3, a4, a5, k _ _ q⟩) | (obtain ⟨d, m, a1, a2, q⟩ := q; exact ⟨d, m, a1, a2, k _ _ q⟩) | (obtain ⟨d, m, a1, a2, a3, q⟩ := q; exact ⟨d, m, a1, a2, a3, k _ _ q⟩) | (obtain ⟨d, m, ks, a1, a2, a3, a4, q⟩ := q; exact ⟨d, m, ks, a1, a2, a3, a4, fun ys p1 p2 => k _ _ (q ys p1 p2)⟩)
theorem bmV_mono : ∀ {f : BM} {x : PV} {xs : List PV} {h : PH} {Q Q' : KQ}, (∀ v h, Q v h → Q' v h) → bmV f x xs h Q → bmV f x xs h Q' := by
  intro f x xs h Q Q' k q
  unfold bmV at q ⊢
  split at q
  all_goals first | (obtain ⟨i, rest, e, q⟩ := q; exact ⟨i, rest, e, k _ _ q⟩) | (obtain ⟨xs, d, ds, j, z, a1, a2, a3, a4, a5, q⟩ := q; exact ⟨xs, d, ds, j, z, a1, a2, a3, a4, a5, k _ _ q⟩) | (obtain ⟨xs, j, z, a1, a2, a3, a4, a5, q⟩ := q; exact ⟨xs, j, z, a1, a2, a3, a4, a5, k _ _ q⟩) | exact q.elim | exact k _ _ q | exact ⟨q.1, k _ _ q.2⟩ | exact ⟨q.1, q.2.1, k _ _ q.2.2⟩ | (obtain ⟨z, a, q⟩ := q; exact ⟨z, a, k _ _ q⟩) | (obtain ⟨z, j, y, a1, a2, a3, a4, q⟩ := q; exact ⟨z, j, y, a1, a2, a3, a4, k _ _ q⟩) | (obtain ⟨z, a, b, q⟩ := q; exact ⟨z, a, b, k _ _ q⟩) | (obtain ⟨z, y, a, b, c, q⟩ := q; exact ⟨z, y, a, b, c, k _ _ q⟩) | (obtain ⟨z, y, a, b, q⟩ := q; exact ⟨z, y, a, b, k _ _ q⟩)
theorem iterL_mono {live : PH → Prop} {body body' : PV → Loc → PH → (Loc → PH → Prop) → Prop} {fin fin' : Loc → PH → Prop}
    (hb : ∀ x l h (Q Q' : Loc → PH → Prop), (∀ l h, Q l h → Q' l h) → body x l h Q → body' x l h Q') (hf : ∀ l h, fin l h → fin' l h) :
    ∀ (xs : List PV) (l : Loc) (h : PH), iterL live body fin xs l h → iterL live body' fin' xs l h
  | [], l, h, q => ⟨q.1, hf _ _ q.2⟩
  | x :: r, l, h, q => ⟨q.1, hb _ _ _ _ _ (fun l' h' q' => iterL_mono hb hf r l' h' q') q.2⟩
theorem compL_mono {live : PH → Prop} {d : Nat} {body body' : PV → PH → (Option PV → PH → Prop) → Prop} {fin fin' : PH → Prop}
    (hb : ∀ x h (Q Q' : Option PV → PH → Prop), (∀ l h, Q l h → Q' l h) → body x h Q → body' x h Q') (hf : ∀ h, fin h → fin' h) :
    ∀ (xs : List PV) (h : PH), compL live d body fin xs h → compL live d body' fin' xs h
  | [], h, q => ⟨q.1, hf _ q.2⟩
  | x :: r, h, q => ⟨q.1, hb _ _ _ _ (fun o h' q' => by
      cases o with
      | none => exact compL_mono hb hf r h' q'
      | some y =>
        obtain ⟨acc, a, b, q'⟩ := q'
        exact ⟨acc, a, b, compL_mono hb hf r _ q'⟩) q.2⟩
theorem whlN_mono {step step' : Loc → PH → (Loc → PH → Prop) → Prop} (hb : ∀ l h (Q Q' : Loc → PH → Prop), (∀ l h, Q l h → Q' l h) → step l h Q → step' l h Q') :
    ∀ (n : Nat) (l : Loc) (h : PH), whlN step n l h → whlN step' n l h
  | 0, _, _, q => q
  | n + 1, l, h, q => hb _ _ _ _ (fun l' h' q' => whlN_mono hb n l' h' q') q
section
variable {G : Sig} {cs cs' : CS}
/-- one call's reading below another -/
def CSle (cs cs' : CS) : Prop := ∀ f xs h (Q Q' : KQ) (X X' : KX), (∀ v h, Q v h → Q' v h) → (∀ v h, X v h → X' v h) → cs f xs h Q X → cs' f xs h Q' X'
mutual
theorem evE_mono (hc : CSle cs cs') {X X' : KX} (hX : ∀ v h, X v h → X' v h) : ∀ (e : E) (l : Loc) (h : PH) (Q Q' : KQ), (∀ v h, Q v h → Q' v h) → evE G cs X e l h Q → evE G cs' X' e l h Q'
  | .var i, l, h, Q, Q', k, q => by obtain ⟨v, a, q⟩ := q; exact ⟨v, a, k _ _ q⟩
  | .int i, _, h, Q, Q', k, q => k _ _ q
  | .str s, _, h, Q, Q', k, q => k _ _ q
  | .bl b, _, h, Q, Q', k, q => k _ _ q
  | .non, _, h, Q, Q', k, q => k _ _ q
  | .glob g, _, h, Q, Q', k, q => by obtain ⟨v, a, q⟩ := q; exact ⟨v, a, k _ _ q⟩
  | .bin o a b, l, h, Q, Q', k, q => evE_mono hc hX a _ _ _ _ (fun _ _ q => evE_mono hc hX b _ _ _ _ (fun _ _ q => binV_mono k q) q) q
  | .neg a, l, h, Q, Q', k, q => evE_mono hc hX a _ _ _ _ (fun _ _ q => by obtain ⟨i, e, q⟩ := q; exact ⟨i, e, k _ _ q⟩) q
  | .nt a, l, h, Q, Q', k, q => evE_mono hc hX a _ _ _ _ (fun _ _ q => by obtain ⟨i, e, q⟩ := q; exact ⟨i, e, k _ _ q⟩) q
  | .and a b, l, h, Q, Q', k, q => evE_mono hc hX a _ _ _ _ (fun _ _ q => by
      obtain ⟨i, e, q⟩ := q
      refine ⟨i, e, ?_⟩
      cases i with
      | true => exact evE_mono hc hX b _ _ _ _ k q
      | false => exact k _ _ q) q
  | .or a b, l, h, Q, Q', k, q => evE_mono hc hX a _ _ _ _ (fun _ _ q => by
      obtain ⟨i, e, q⟩ := q
      refine ⟨i, e, ?_⟩
      cases i with
      | false => exact evE_mono hc hX b _ _ _ _ k q
      | true => exact k _ _ q) q
  | .cmp o a b, l, h, Q, Q', k, q => evE_mono hc hX a _ _ _ _ (fun _ _ q => evE_mono hc hX b _ _ _ _ (fun _ _ q => cmpV_mono (fun _ _ q => k _ _ q) q) q) q
  | .chain o o' a b c, l, h, Q, Q', k, q => evE_mono hc hX a _ _ _ _ (fun _ _ q => evE_mono hc hX b _ _ _ _ (fun _ _ q => cmpV_mono (fun r _ q => by
      cases r with
      | true => exact evE_mono hc hX c _ _ _ _ (fun _ _ q => cmpV_mono (fun _ _ q => k _ _ q) q) q
      | false => exact k _ _ q) q) q) q
  | .ite c a b, l, h, Q, Q', k, q => evT_mono hc hX c _ _ _ _ (fun r _ q => by
      cases r with
      | true => exact evE_mono hc hX a _ _ _ _ k q
      | false => exact evE_mono hc hX b _ _ _ _ k q) q
  | .tup es, l, h, Q, Q', k, q => evEs_mono hc hX es _ _ _ _ (fun _ _ q => ⟨q.1, k _ _ q.2⟩) q
  | .lst es, l, h, Q, Q', k, q => evEs_mono hc hX es _ _ _ _ (fun _ _ q => ⟨q.1, k _ _ q.2⟩) q
  | .dic0, _, h, Q, Q', k, q => k _ _ q
  | .idx a b, l, h, Q, Q', k, q => evE_mono hc hX a _ _ _ _ (fun _ _ q => evE_mono hc hX b _ _ _ _ (fun _ _ q => idxV_mono k q) q) q
  | .dxi a b, l, h, Q, Q', k, q => evE_mono hc hX a _ _ _ _ (fun _ _ q => evE_mono hc hX b _ _ _ _ (fun _ _ q => dxiV_mono k q) q) q
  | .slc a lo hi, l, h, Q, Q', k, q => evE_mono hc hX a _ _ _ _ (fun _ _ q => evO_mono hc hX lo _ _ _ _ (fun _ _ q => evO_mono hc hX hi _ _ _ _ (fun _ _ q => slcV_mono k q) q) q) q
  | .attr a f, l, h, Q, Q', k, q => evE_mono hc hX a _ _ _ _ (fun _ _ q => by obtain ⟨p, c, fs, v, cd, a, b, c', d, e, q⟩ := q; exact ⟨p, c, fs, v, cd, a, b, c', d, e, k _ _ q⟩) q
  | .call f args, l, h, Q, Q', k, q => evEs_mono hc hX args _ _ _ _ (fun _ _ q => hc _ _ _ _ _ _ _ k hX q) q
  | .mk c args, l, h, Q, Q', k, q => evEs_mono hc hX args _ _ _ _ (fun _ _ q => hc _ _ _ _ _ _ _ k hX q) q
  | .mkK c args e, l, h, Q, Q', k, q => evEs_mono hc hX args _ _ _ _ (fun _ _ q => evE_mono hc hX e _ _ _ _ (fun _ _ q => by
      obtain ⟨cd, d, a1, a2, a3, a4, a5, q⟩ := q
      exact ⟨cd, d, a1, a2, a3, a4, a5, hc _ _ _ _ _ _ _ k hX q⟩) q) q
  | .dicl ks vs, l, h, Q, Q', k, q => evEs_mono hc hX vs _ _ _ _ (fun _ _ q => ⟨q.1, q.2.1, q.2.2.1, k _ _ q.2.2.2⟩) q
  | .slr a, l, h, Q, Q', k, q => evE_mono hc hX a _ _ _ _ (fun _ _ q => by obtain ⟨p, xs, a, b, q⟩ := q; exact ⟨p, xs, a, b, k _ _ q⟩) q
  | .meth o m args, l, h, Q, Q', k, q => evE_mono hc hX o _ _ _ _ (fun _ _ q => by
      obtain ⟨p, c, fs, cd, f, a, b, c', d, q⟩ := q
      exact ⟨p, c, fs, cd, f, a, b, c', d, evEs_mono hc hX args _ _ _ _ (fun _ _ q => hc _ _ _ _ _ _ _ k hX q) q⟩) q
  | .ini c args, l, h, Q, Q', k, q => by
      obtain ⟨cd, a, q⟩ := q
      exact ⟨cd, a, evEs_mono hc hX args _ _ _ _ (fun _ _ q => hc _ _ _ _ _ _ _ k hX q) q⟩
  | .mk0 c, l, h, Q, Q', k, q => by
      obtain ⟨cd, a, b, q⟩ := q
      exact ⟨cd, a, b, k _ _ q⟩
  | .lrg1 a, l, h, Q, Q', k, q => evE_mono hc hX a _ _ _ _ (fun _ _ q => by obtain ⟨i, e, f, q⟩ := q; exact ⟨i, e, f, k _ _ q⟩) q
  | .isi f a, l, h, Q, Q', k, q => evE_mono hc hX a _ _ _ _ (fun _ _ q => by obtain ⟨i, e, q⟩ := q; exact ⟨i, e, k _ _ q⟩) q
  | .bf f args, l, h, Q, Q', k, q => evEs_mono hc hX args _ _ _ _ (fun _ _ q => bfV_mono k q) q
  | .bm m o args, l, h, Q, Q', k, q => evE_mono hc hX o _ _ _ _ (fun _ _ q => ⟨q.1, evEs_mono hc hX args _ _ _ _ (fun _ _ q => bmV_mono k q) q.2⟩) q
  | .lc elt t it cond, l, h, Q, Q', k, q => evI_mono hc hX it _ _ _ _ (fun items live h1 q => compL_mono (fun x h2 R R' kR q => evG_mono hc (fun _ _ z => z) t _ _ _ _ _ (fun l' h3 q => evC_mono hc (fun _ _ z => z) cond _ _ _ _ (fun b h4 q => by
      cases b with
      | true => exact evE_mono hc (fun _ _ z => z) elt _ _ _ _ (fun y h5 q => kR _ _ q) q
      | false => exact kR _ _ q) q) q) (fun h2 q => k _ _ q) _ _ q) q
  | .dup o a, l, h, Q, Q', k, q => evE_mono hc hX o _ _ _ _ (fun _ _ q => ⟨q.1, evE_mono hc hX a _ _ _ _ (fun _ _ q => by obtain ⟨p, r, kvs, more, a1, a2, a3, a4, a5, a6, q⟩ := q; exact ⟨p, r, kvs, more, a1, a2, a3, a4, a5, a6, k _ _ q⟩) q.2⟩) q
  | .dg1 o a, l, h, Q, Q', k, q => evE_mono hc hX o _ _ _ _ (fun _ _ q => ⟨q.1, evE_mono hc hX a _ _ _ _ (fun _ _ q => by obtain ⟨p, kvs, a1, a2, a3, q⟩ := q; exact ⟨p, kvs, a1, a2, a3, k _ _ q⟩) q.2⟩) q
  | .lzip a b, l, h, Q, Q', k, q => evE_mono hc hX a _ _ _ _ (fun _ _ q => evE_mono hc hX b _ _ _ _ (fun _ _ q => by obtain ⟨xs, ys, a1, a2, a3, q⟩ := q; exact ⟨xs, ys, a1, a2, a3, k _ _ q⟩) q) q
  | .dzip a b, l, h, Q, Q', k, q => evE_mono hc hX a _ _ _ _ (fun _ _ q => evE_mono hc hX b _ _ _ _ (fun _ _ q => by obtain ⟨xs, ys, a1, a2, a3, a4, q⟩ := q; exact ⟨xs, ys, a1, a2, a3, a4, k _ _ q⟩) q) q
  | .co e, l, h, Q, Q', k, q => evE_mono hc hX e _ _ _ _ (fun _ _ q => q.elim (fun q => .inl (k _ _ q)) fun ⟨a, xs, e1, e2, q⟩ => .inr ⟨a, xs, e1, e2, k _ _ q⟩) q
  | .lke e, l, h, Q, Q', k, q => by
      rcases q with q | ⟨a, kvs, e1, q⟩
      · exact .inl (evE_mono hc hX e _ _ _ _ k q)
      · exact .inr ⟨a, kvs, e1, evE_mono hc (fun _ _ z => z) e _ _ _ _ (fun _ _ q => ⟨q.1, k _ _ q.2⟩) q⟩
  | .dget o a b, l, h, Q, Q', k, q => evE_mono hc hX o _ _ _ _ (fun _ _ q => ⟨q.1, evE_mono hc hX a _ _ _ _ (fun _ _ q => evE_mono hc hX b _ _ _ _ (fun _ _ q => by obtain ⟨p, kvs, a1, a2, a3, q⟩ := q; exact ⟨p, kvs, a1, a2, a3, k _ _ q⟩) q) q.2⟩) q
theorem evEs_mono (hc : CSle cs cs') {X X' : KX} (hX : ∀ v h, X v h → X' v h) : ∀ (e : Es) (l : Loc) (h : PH) (Q Q' : List PV → PH → Prop), (∀ v h, Q v h → Q' v h) → evEs G cs X e l h Q → evEs G cs' X' e l h Q'
  | .nil, _, h, Q, Q', k, q => k _ _ q
  | .cons e es, l, h, Q, Q', k, q => evE_mono hc hX e _ _ _ _ (fun _ _ q => evEs_mono hc hX es _ _ _ _ (fun _ _ q => k _ _ q) q) q
theorem evO_mono (hc : CSle cs cs') {X X' : KX} (hX : ∀ v h, X v h → X' v h) : ∀ (e : OE) (l : Loc) (h : PH) (Q Q' : Option Int → PH → Prop), (∀ v h, Q v h → Q' v h) → evO G cs X e l h Q → evO G cs' X' e l h Q'
  | .no, _, h, Q, Q', k, q => k _ _ q
  | .so e, l, h, Q, Q', k, q => evE_mono hc hX e _ _ _ _ (fun _ _ q => by obtain ⟨i, e, q⟩ := q; exact ⟨i, e, k _ _ q⟩) q
theorem evC_mono (hc : CSle cs cs') {X X' : KX} (hX : ∀ v h, X v h → X' v h) : ∀ (e : OC) (l : Loc) (h : PH) (Q Q' : Bool → PH → Prop), (∀ v h, Q v h → Q' v h) → evC G cs X e l h Q → evC G cs' X' e l h Q'
  | .no, _, h, Q, Q', k, q => k _ _ q
  | .so e, l, h, Q, Q', k, q => evT_mono hc hX e _ _ _ _ k q
theorem evT_mono (hc : CSle cs cs') {X X' : KX} (hX : ∀ v h, X v h → X' v h) : ∀ (e : C) (l : Loc) (h : PH) (Q Q' : Bool → PH → Prop), (∀ v h, Q v h → Q' v h) → evT G cs X e l h Q → evT G cs' X' e l h Q'
  | .v e, l, h, Q, Q', k, q => evE_mono hc hX e _ _ _ _ (fun _ _ q => by obtain ⟨i, e, q⟩ := q; exact ⟨i, e, k _ _ q⟩) q
  | .cmp o a b, l, h, Q, Q', k, q => evE_mono hc hX a _ _ _ _ (fun _ _ q => evE_mono hc hX b _ _ _ _ (fun _ _ q => cmpV_mono k q) q) q
  | .chain o o' a b c, l, h, Q, Q', k, q => evE_mono hc hX a _ _ _ _ (fun _ _ q => evE_mono hc hX b _ _ _ _ (fun _ _ q => cmpV_mono (fun r _ q => by
      cases r with
      | true => exact evE_mono hc hX c _ _ _ _ (fun _ _ q => cmpV_mono k q) q
      | false => exact k _ _ q) q) q) q
  | .nt a, l, h, Q, Q', k, q => evT_mono hc hX a _ _ _ _ (fun _ _ q => k _ _ q) q
  | .and a b, l, h, Q, Q', k, q => evT_mono hc hX a _ _ _ _ (fun c _ q => by
      cases c with
      | true => exact evT_mono hc hX b _ _ _ _ k q
      | false => exact k _ _ q) q
  | .or a b, l, h, Q, Q', k, q => evT_mono hc hX a _ _ _ _ (fun c _ q => by
      cases c with
      | false => exact evT_mono hc hX b _ _ _ _ k q
      | true => exact k _ _ q) q
theorem evI_mono (hc : CSle cs cs') {X X' : KX} (hX : ∀ v h, X v h → X' v h) : ∀ (e : I) (l : Loc) (h : PH) (Q Q' : KI), (∀ a b c, Q a b c → Q' a b c) → evI G cs X e l h Q → evI G cs' X' e l h Q'
  | .seq e, l, h, Q, Q', k, q => evE_mono hc hX e _ _ _ _ (fun _ _ q => by obtain ⟨i, e, q⟩ := q; exact ⟨i, e, k _ _ _ q⟩) q
  | .rng1 e, l, h, Q, Q', k, q => evE_mono hc hX e _ _ _ _ (fun _ _ q => by obtain ⟨i, e, f, q⟩ := q; exact ⟨i, e, f, k _ _ _ q⟩) q
  | .rng2 a b, l, h, Q, Q', k, q => evE_mono hc hX a _ _ _ _ (fun _ _ q => evE_mono hc hX b _ _ _ _ (fun _ _ q => by obtain ⟨i, j, e, f, g, q⟩ := q; exact ⟨i, j, e, f, g, k _ _ _ q⟩) q) q
  | .enu e, l, h, Q, Q', k, q => evE_mono hc hX e _ _ _ _ (fun _ _ q => by obtain ⟨i, e, q⟩ := q; exact ⟨i, e, k _ _ _ q⟩) q
  | .zip2 a b, l, h, Q, Q', k, q => evE_mono hc hX a _ _ _ _ (fun _ _ q => evE_mono hc hX b _ _ _ _ (fun _ _ q => by obtain ⟨i, j, e, f, q⟩ := q; exact ⟨i, j, e, f, k _ _ _ q⟩) q) q
  | .keys e, l, h, Q, Q', k, q => evE_mono hc hX e _ _ _ _ (fun _ _ q => by obtain ⟨a, kvs, e1, e2, q⟩ := q; exact ⟨a, kvs, e1, e2, k _ _ _ q⟩) q
  | .rev e, l, h, Q, Q', k, q => evE_mono hc hX e _ _ _ _ (fun _ _ q => by obtain ⟨i, e, q⟩ := q; exact ⟨i, e, k _ _ _ q⟩) q
theorem evG_mono (hc : CSle cs cs') {X X' : KX} (hX : ∀ v h, X v h → X' v h) : ∀ (t : T) (v : PV) (l : Loc) (h : PH) (Q Q' : Loc → PH → Prop), (∀ a b, Q a b → Q' a b) → evG G cs X t v l h Q → evG G cs' X' t v l h Q'
  | .nm i, v, l, h, Q, Q', k, q => ⟨q.1, k _ _ q.2⟩
  | .tup ts, v, l, h, Q, Q', k, q => by obtain ⟨xs, e, e2, q⟩ := q; exact ⟨xs, e, e2, evGs_mono hc hX ts _ _ _ _ _ k q⟩
  | .attr o f, v, l, h, Q, Q', k, q => evE_mono hc hX o _ _ _ _ (fun _ _ q => by obtain ⟨p, c, fs, cd, a, b, c', d, d', q⟩ := q; exact ⟨p, c, fs, cd, a, b, c', d, d', k _ _ q⟩) q
  | .sub o i, v, l, h, Q, Q', k, q => evE_mono hc hX o _ _ _ _ (fun _ _ q => evE_mono hc hX i _ _ _ _ (fun _ _ q => putV_mono (fun _ q => k _ _ q) q) q) q
theorem evGs_mono (hc : CSle cs cs') {X X' : KX} (hX : ∀ v h, X v h → X' v h) : ∀ (t : Ts) (v : List PV) (l : Loc) (h : PH) (Q Q' : Loc → PH → Prop), (∀ a b, Q a b → Q' a b) → evGs G cs X t v l h Q → evGs G cs' X' t v l h Q'
  | .nil, v, l, h, Q, Q', k, q => ⟨q.1, k _ _ q.2⟩
  | .cons t ts, v, l, h, Q, Q', k, q => by
      obtain ⟨y, r, e, q⟩ := q
      exact ⟨y, r, e, evG_mono hc hX t _ _ _ _ _ (fun _ _ q => evGs_mono hc hX ts _ _ _ _ _ k q) q⟩
end
/-- an end below another -/
structure Enle (D D' : En) : Prop where
  nx : ∀ l h, D.nx l h → D'.nx l h
  rt : ∀ l h, D.rt l h → D'.rt l h
  ct : ∀ l h, D.ct l h → D'.ct l h
  ex : ∀ x l h, D.ex x l h → D'.ex x l h
mutual
theorem evS_mono (hc : CSle cs cs') : ∀ (s : S) (l : Loc) (h : PH) (D D' : En), Enle D D' → evS G cs s l h D → evS G cs' s l h D'
  | .asg t e, l, h, D, D', k, q => evE_mono hc (fun _ _ z => k.ex _ _ _ z) e _ _ _ _ (fun _ _ q => evG_mono hc (fun _ _ z => k.ex _ _ _ z) t _ _ _ _ _ k.nx q) q
  | .aug i o e, l, h, D, D', k, q => by
      obtain ⟨x, a, q⟩ := q
      exact ⟨x, a, evE_mono hc (fun _ _ z => k.ex _ _ _ z) e _ _ _ _ (fun _ _ q => augV_mono (fun _ _ q => k.nx _ _ q) q) q⟩
  | .augF ob f o e, l, h, D, D', k, q => evE_mono hc (fun _ _ z => k.ex _ _ _ z) ob _ _ _ _ (fun _ _ q => by
      obtain ⟨p, c, fs, v, cd, a1, a2, a3, a4, a5, q⟩ := q
      exact ⟨p, c, fs, v, cd, a1, a2, a3, a4, a5, evE_mono hc (fun _ _ z => k.ex _ _ _ z) e _ _ _ _ (fun _ _ q => augV_mono (fun _ _ q => by obtain ⟨fs', b1, b2, q⟩ := q; exact ⟨fs', b1, b2, k.nx _ _ q⟩) q) q⟩) q
  | .augS ob ix o e, l, h, D, D', k, q => evE_mono hc (fun _ _ z => k.ex _ _ _ z) ob _ _ _ _ (fun _ _ q => evE_mono hc (fun _ _ z => k.ex _ _ _ z) ix _ _ _ _ (fun _ _ q => by
      obtain ⟨p, c, fs, v, a1, a2, a3, a4, q⟩ := q
      exact ⟨p, c, fs, v, a1, a2, a3, a4, evE_mono hc (fun _ _ z => k.ex _ _ _ z) e _ _ _ _ (fun _ _ q => augV_mono (fun _ _ q => by obtain ⟨ys, j, b1, b2, q⟩ := q; exact ⟨ys, j, b1, b2, k.nx _ _ q⟩) q) q⟩) q) q
  | .exp e, l, h, D, D', k, q => evE_mono hc (fun _ _ z => k.ex _ _ _ z) e _ _ _ _ (fun _ _ q => k.nx _ _ q) q
  | .ret e, l, h, D, D', k, q => evE_mono hc (fun _ _ z => k.ex _ _ _ z) e _ _ _ _ k.rt q
  | .retN, l, h, D, D', k, q => k.rt _ _ q
  | .ife c a b, l, h, D, D', k, q => evT_mono hc (fun _ _ z => k.ex _ _ _ z) c _ _ _ _ (fun r _ q => by
      cases r with
      | true => exact evB_mono hc a _ _ _ _ k q
      | false => exact evB_mono hc b _ _ _ _ k q) q
  | .for t it b, l, h, D, D', k, q => evI_mono hc (fun _ _ z => k.ex _ _ _ z) it _ _ _ _ (fun items live h1 q => iterL_mono (fun x l' h' R R' kR q =>
      evG_mono hc (fun _ _ z => k.ex _ _ _ z) t _ _ _ _ _ (fun l2 h2 q => evB_mono hc b _ _ { D with nx := R, ct := R } { D' with nx := R', ct := R' } ⟨kR, k.rt, kR, k.ex⟩ q) q) k.nx _ _ _ q) q
  | .whl c b, l, h, D, D', k, q => by
      obtain ⟨n, q⟩ := q
      exact ⟨n, whlN_mono (fun l' h' R R' kR q => evT_mono hc (fun _ _ z => k.ex _ _ _ z) c _ _ _ _ (fun r _ q => by
        cases r with
        | true => exact evB_mono hc b _ _ { D with nx := R, ct := R } { D' with nx := R', ct := R' } ⟨kR, k.rt, kR, k.ex⟩ q
        | false => exact k.nx _ _ q) q) n _ _ q⟩
  | .pas, l, h, D, D', k, q => k.nx _ _ q
  | .cont, l, h, D, D', k, q => k.ct _ _ q
  | .augD ob ix o e, l, h, D, D', k, q => evE_mono hc (fun _ _ z => k.ex _ _ _ z) ob _ _ _ _ (fun _ _ q => evE_mono hc (fun _ _ z => k.ex _ _ _ z) ix _ _ _ _ (fun _ _ q => by
      obtain ⟨p, kvs, v, a1, a2, a3, a4, q⟩ := q
      exact ⟨p, kvs, v, a1, a2, a3, a4, evE_mono hc (fun _ _ z => k.ex _ _ _ z) e _ _ _ _ (fun _ _ q => augV_mono (fun _ _ q => by obtain ⟨ys, b1, b2, q⟩ := q; exact ⟨ys, b1, b2, k.nx _ _ q⟩) q) q⟩) q) q
  | .lks s, l, h, D, D', k, q => by
      rcases q with q | ⟨a, kvs, e1, q⟩
      · exact .inl (evS_mono hc s _ _ _ _ k q)
      · exact .inr ⟨a, kvs, e1, evS_mono hc s _ _ (lkD D a kvs) (lkD D' a kvs) ⟨fun _ _ q => ⟨q.1, k.nx _ _ q.2⟩, fun _ _ q => ⟨q.1, k.rt _ _ q.2⟩, fun _ _ q => ⟨q.1, k.ct _ _ q.2⟩, fun _ _ _ q => q⟩ q⟩
  | .rais c a, l, h, D, D', k, q => q
  | .rai0, l, h, D, D', k, q => q
theorem evB_mono (hc : CSle cs cs') : ∀ (b : B) (l : Loc) (h : PH) (D D' : En), Enle D D' → evB G cs b l h D → evB G cs' b l h D'
  | .nil, l, h, D, D', k, q => k.nx _ _ q
  | .cons s b, l, h, D, D', k, q => evS_mono hc s _ _ { D with nx := fun l' h' => evB G cs b l' h' D } { D' with nx := fun l' h' => evB G cs' b l' h' D' } ⟨fun _ _ q => evB_mono hc b _ _ _ _ k q, k.rt, k.ct, k.ex⟩ q
end
theorem callS_le : ∀ (j k : Nat), j ≤ k → CSle (callS G j) (callS G k)
  | 0, _, _ => fun f xs h Q Q' X X' hQ hX q => q.elim
  | j + 1, 0, hj => absurd hj (Nat.not_succ_le_zero j)
  | j + 1, k + 1, hj => fun f xs h Q Q' X X' hQ hX q => by
      have ih := callS_le j k (Nat.le_of_succ_le_succ hj)
      cases f with
      | fn f =>
        obtain ⟨d, a, b, c, q⟩ := q
        exact ⟨d, a, b, c, evB_mono ih d.body _ _ ⟨fun _ h' => Q .non h', Q, fun _ _ => False, fun x _ h' => X x h'⟩ ⟨fun _ h' => Q' .non h', Q', fun _ _ => False, fun x _ h' => X' x h'⟩ ⟨fun _ _ q => hQ _ _ q, hQ, fun _ _ q => q, fun _ _ _ q => hX _ _ q⟩ q⟩
      | mk c =>
        obtain ⟨cd, a, q⟩ := q
        exact ⟨cd, a, ih _ _ _ _ _ _ _ (fun _ _ q => ⟨q.1, hQ _ _ q.2⟩) hX q⟩
theorem callS_mono {k : Nat} {f : FR} {xs : List PV} {h : PH} {Q Q' : KQ} {X X' : KX} (hQ : ∀ v h, Q v h → Q' v h) (hX : ∀ v h, X v h → X' v h) (q : callS G k f xs h Q X) : callS G k f xs h Q' X' :=
  callS_le k k (Nat.le_refl k) _ _ _ _ _ _ _ hQ hX q
end
end Py

set_option Elab.async false
set_option linter.all false
set_option maxRecDepth 100000
set_option maxHeartbeats 4000000
/-! PyHead: what the head's run looks at. -/
namespace Py
open PySem PySem.Spec PyProof.Rows L2
def bltNames : List Str := ["len", "list", "tuple", "isinstance", "int", "str", "bool", "min", "max", "sum", "abs", "repr", "sorted", "all", "dict", "range", "enumerate", "zip", "reversed", "set"]
theorem ba {a b : Bool} (h : (a && b) = true) : a = true ∧ b = true := Bool.and_eq_true_iff.mp h
def getF (f : Nat) : List (Nat × FD) → Option FD
  | [] => none
  | (g, x) :: r => if g = f then some x else getF f r
def AllP {α : Type} (P : Nat → α → Prop) : List (Nat × α) → Prop
  | [] => True
  | (g, x) :: r => P g x ∧ AllP P r
theorem getF_all {P : Nat → FD → Prop} : ∀ {l : List (Nat × FD)}, AllP P l → ∀ {f d}, getF f l = some d → P f d
  | [], _, _, _, h => nomatch h
  | (g, x) :: r, ⟨a, b⟩, f, d, h => by
    unfold getF at h
    split at h
    · rename_i e; cases h; exact e ▸ a
    · exact getF_all b h
theorem getN_all {P : Nat → PV → Prop} : ∀ {l : List (Nat × PV)}, AllP P l → ∀ {f d}, getN f l = some d → P f d
  | [], _, _, _, h => nomatch h
  | (g, x) :: r, ⟨a, b⟩, f, d, h => by
    unfold getN at h
    split at h
    · rename_i e; cases h; exact e ▸ a
    · exact getN_all b h
/-! ### constants of the module, as the heap has them -/
mutual
def chkV (K : PySem.W.Frag) : PV → Value → Bool
  | .non, .none => true
  | .bl b, .bool c => b == c
  | .int i, .int j _ => decide (i = j)
  | .str x, .str y _ => decide (x = y)
  | .tup xs, .ref a => (match K.lookup a with
    | some ⟨.type c, _, .seq its _, _⟩ => decide (c = "tuple") && (decide (its.size ≤ sizeLine) && chkVs K xs its.toList)
    | _ => false)
  | _, _ => false
def chkVs (K : PySem.W.Frag) : List PV → List Value → Bool
  | [], [] => true
  | x :: xs, u :: us => chkV K x u && chkVs K xs us
  | _, _ => false
end
def chkC (nm : Nat → Str) (l : List (Nat × PV)) (K : PySem.W.Frag) : Bool := l.all fun p => match PySem.W.nsIn K mainGlobals (nm p.1) with
  | some (some u) => chkV K p.2 u
  | _ => false
/-! ### the head's hook -/
/-! what the module's names reach, each object once; all in continuation style, so that the kernel has each list and number written out before it goes on -/
def force {β : Type} (n : Nat) (f : Nat → β) : β := Nat.rec (f 0) (fun k _ => f (k + 1)) n
theorem force_eq {β : Type} (n : Nat) (f : Nat → β) : force n f = f n := by cases n <;> rfl
def addAll {β : Type} : List Addr → Nat → List Addr → (List Addr → Nat → β) → β
  | [], seen, acc, k => k acc seen
  | a :: r, seen, acc, k => force a fun a => cond (Nat.testBit seen a) (addAll r seen acc k) (force (Nat.lor seen (Nat.shiftLeft 1 a)) fun s => addAll r s (a :: acc) k)
/-- the objects at these addresses are taken up; what they name is gathered -/
def layer {β : Type} (g : Addr → Option Obj) : List Addr → Nat → List Addr → PySem.W.Frag → (List Addr → Nat → PySem.W.Frag → β) → β
  | [], seen, new, K, k => k new seen K
  | a :: r, seen, new, K, k => match g a with
    | some o => addAll (He.refsD o) seen new fun new' seen' => layer g r seen' new' ((a, o) :: K) k
    | none => layer g r seen new K k
def layers {β : Type} (g : Addr → Option Obj) : Nat → List Addr → Nat → PySem.W.Frag → (PySem.W.Frag → β) → β
  | 0, fr, seen, K, k => k K
  | n + 1, fr, seen, K, k => layer g fr seen [] K fun new seen' K' => layers g n new seen' K' k
def revK {β : Type} : PySem.W.Frag → PySem.W.Frag → (PySem.W.Frag → β) → β
  | [], acc, k => k acc
  | p :: r, acc, k => revK r (p :: acc) k
def FrIn (g : Addr → Option Obj) (K : PySem.W.Frag) : Prop := ∀ p ∈ K, g p.1 = some p.2
theorem revK_eq {β : Type} {g : Addr → Option Obj} : ∀ (K acc : PySem.W.Frag) (k : PySem.W.Frag → β), FrIn g K → FrIn g acc → ∃ K', FrIn g K' ∧ revK K acc k = k K'
  | [], acc, k, _, h => ⟨acc, h, rfl⟩
  | p :: r, acc, k, h1, h2 => revK_eq r (p :: acc) k (fun q m => h1 q (List.mem_cons_of_mem _ m)) fun q m => by
    rcases List.mem_cons.mp m with rfl | m
    · exact h1 _ List.mem_cons_self
    · exact h2 q m
theorem FrIn.look {g : Addr → Option Obj} : ∀ {K : PySem.W.Frag}, FrIn g K → ∀ a o, K.lookup a = some o → g a = some o
  | [], _, a, o, q => by cases q
  | (b, u) :: r, h, a, o, q => by
    have q : (match a == b with | true => some u | false => List.lookup a r) = some o := q
    cases hb : a == b with
    | true => rw [hb] at q; cases q; rw [beq_iff_eq.mp hb]; exact h _ List.mem_cons_self
    | false => rw [hb] at q; exact FrIn.look (fun p m => h p (List.mem_cons_of_mem _ m)) a o q
theorem addAll_eq {β : Type} : ∀ (l : List Addr) (seen : Nat) (acc : List Addr) (k : List Addr → Nat → β), ∃ x y, addAll l seen acc k = k x y
  | [], seen, acc, k => ⟨_, _, rfl⟩
  | a :: r, seen, acc, k => by
    unfold addAll
    rw [force_eq]
    cases Nat.testBit seen a with
    | true => exact addAll_eq r seen acc k
    | false =>
      show ∃ x y, force (Nat.lor seen (Nat.shiftLeft 1 a)) (fun s => addAll r s (a :: acc) k) = k x y
      rw [force_eq]
      exact addAll_eq r _ _ k
theorem layer_eq {β : Type} {g : Addr → Option Obj} : ∀ (l : List Addr) (seen : Nat) (new : List Addr) (K : PySem.W.Frag) (k : List Addr → Nat → PySem.W.Frag → β), FrIn g K → ∃ x y K', FrIn g K' ∧ layer g l seen new K k = k x y K'
  | [], seen, new, K, k, h => ⟨_, _, K, h, rfl⟩
  | a :: r, seen, new, K, k, h => by
    unfold layer
    cases e : g a with
    | none => exact layer_eq r seen new K k h
    | some o =>
      dsimp only
      obtain ⟨x, y, e2⟩ := addAll_eq (He.refsD o) seen new fun new' seen' => layer g r seen' new' ((a, o) :: K) k
      rw [e2]
      refine layer_eq r y x ((a, o) :: K) k fun q m => ?_
      rcases List.mem_cons.mp m with rfl | m
      · exact e
      · exact h q m
theorem layers_eq {β : Type} {g : Addr → Option Obj} : ∀ (n : Nat) (l : List Addr) (seen : Nat) (K : PySem.W.Frag) (k : PySem.W.Frag → β), FrIn g K → ∃ K', FrIn g K' ∧ layers g n l seen K k = k K'
  | 0, l, seen, K, k, h => ⟨K, h, rfl⟩
  | n + 1, l, seen, K, k, h => by
    unfold layers
    obtain ⟨x, y, K', h', e⟩ := layer_eq (g := g) l seen [] K (fun new seen' K' => layers g n new seen' K' k) h
    rw [e]
    exact layers_eq n x y K' k h'
abbrev AlP : Type := Bool × He.AlD
def statK (g : Addr → Option Obj) : PySem.W.Frag := match g cStatics with
  | some o => [(cStatics, o)]
  | none => []
theorem statK_in {g : Addr → Option Obj} : FrIn g (statK g) := fun p m => by
  unfold statK at m
  cases e : g cStatics with
  | none => rw [e] at m; cases m
  | some o =>
    rw [e] at m
    rcases List.mem_cons.mp m with rfl | m
    · exact e
    · cases m
def obsP (n : Nat) (fa : List He.Fa) (fn : List He.DefD) (ex : PySem.W.Frag → Bool) (g : Addr → Option Obj) : AlP := layers g (n + 1) [mainGlobals] (Nat.shiftLeft 1 mainGlobals) (statK g) fun K => revK K [] fun K => (ex K, He.obsD fa fn K)
def hookP (n : Nat) (fa : List He.Fa) (fn : List He.DefD) (ex : PySem.W.Frag → Bool) : PySem.W.Hook where
  α := AlP
  obs := fun s => obsP n fa fn ex s.heap.get?
  val := fun _ => (true, He.valD fn)
  says := fun _ h => ∃ K : PySem.W.Frag, K.In h ∧ He.SaysD fa fn K ∧ ex K = true
  of := fun _ s e => by
    obtain ⟨K, h, e2⟩ := layers_eq (g := s.heap.get?) (n + 1) [mainGlobals] (Nat.shiftLeft 1 mainGlobals) (statK s.heap.get?) (fun K => revK K [] fun K => (ex K, He.obsD fa fn K)) statK_in
    obtain ⟨K', h', e3⟩ := revK_eq K [] (fun K => (ex K, He.obsD fa fn K)) h (fun q m => by cases m)
    have e : obsP n fa fn ex s.heap.get? = (true, He.valD fn) := e
    unfold obsP at e
    rw [e2, e3] at e
    exact ⟨K', h'.look, congrArg (fun z : AlP => z.2) e, congrArg (fun z : AlP => z.1) e⟩
  keeps := fun _ _ _ ⟨K, hK, c⟩ k => ⟨K, PySem.W.Frag.In.keeps hK k, c⟩
theorem obsP_eq {n : Nat} {fa : List He.Fa} {fn : List He.DefD} {ex : PySem.W.Frag → Bool} {g : Addr → Option Obj} {s : Shared} (h : ∀ a, g a = s.heap.get? a) : obsP n fa fn ex g = (hookP n fa fn ex).obs s := by
  have e : g = s.heap.get? := funext h
  rw [e] <;> rfl
/-! the look cut in pieces: what is gathered is one and the same for every reading -/
theorem addAll_all {β : Type} : ∀ (l : List Addr) (seen : Nat) (acc : List Addr), ∃ x y, ∀ k : List Addr → Nat → β, addAll l seen acc k = k x y
  | [], seen, acc => ⟨acc, seen, fun _ => rfl⟩
  | a :: r, seen, acc => by
    cases h : Nat.testBit seen a with
    | true =>
      obtain ⟨x, y, e⟩ := addAll_all (β := β) r seen acc
      exact ⟨x, y, fun k => by unfold addAll; rw [force_eq, h]; exact e k⟩
    | false =>
      obtain ⟨x, y, e⟩ := addAll_all (β := β) r (Nat.lor seen (Nat.shiftLeft 1 a)) (a :: acc)
      exact ⟨x, y, fun k => by
        unfold addAll
        rw [force_eq, h, cond_false, force_eq]
        exact e k⟩
theorem layer_all {β : Type} {g : Addr → Option Obj} : ∀ (l : List Addr) (seen : Nat) (new : List Addr) (K : PySem.W.Frag), ∃ x y K', ∀ k : List Addr → Nat → PySem.W.Frag → β, layer g l seen new K k = k x y K'
  | [], seen, new, K => ⟨new, seen, K, fun _ => rfl⟩
  | a :: r, seen, new, K => by
    cases e : g a with
    | none =>
      obtain ⟨x, y, K', h⟩ := layer_all (β := β) (g := g) r seen new K
      exact ⟨x, y, K', fun k => by unfold layer; rw [e]; exact h k⟩
    | some o =>
      obtain ⟨x1, y1, e1⟩ := addAll_all (β := β) (He.refsD o) seen new
      obtain ⟨x, y, K', h⟩ := layer_all (β := β) (g := g) r y1 x1 ((a, o) :: K)
      exact ⟨x, y, K', fun k => by unfold layer; rw [e]; dsimp only; rw [e1]; exact h k⟩
theorem layers_all {β : Type} {g : Addr → Option Obj} : ∀ (n : Nat) (l : List Addr) (seen : Nat) (K : PySem.W.Frag), ∃ K', ∀ k : PySem.W.Frag → β, layers g n l seen K k = k K'
  | 0, l, seen, K => ⟨K, fun _ => rfl⟩
  | n + 1, l, seen, K => by
    obtain ⟨x, y, K1, e⟩ := layer_all (β := β) (g := g) l seen [] K
    obtain ⟨K2, e2⟩ := layers_all (β := β) (g := g) n x y K1
    exact ⟨K2, fun k => by unfold layers; rw [e]; exact e2 k⟩
theorem revK_all {β : Type} : ∀ (K acc : PySem.W.Frag), ∃ K', ∀ k : PySem.W.Frag → β, revK K acc k = k K'
  | [], acc => ⟨acc, fun _ => rfl⟩
  | p :: r, acc => by
    obtain ⟨K', e⟩ := revK_all (β := β) r (p :: acc)
    exact ⟨K', fun k => by unfold revK; exact e k⟩
theorem obsP_all (n : Nat) (g : Addr → Option Obj) : ∃ K, ∀ fa fn ex, obsP n fa fn ex g = (ex K, He.obsD fa fn K) := by
  obtain ⟨K1, e1⟩ := layers_all (β := AlP) (g := g) (n + 1) [mainGlobals] (Nat.shiftLeft 1 mainGlobals) (statK g)
  obtain ⟨K2, e2⟩ := revK_all (β := AlP) K1 []
  exact ⟨K2, fun fa fn ex => by unfold obsP; rw [e1, e2]⟩
theorem obs_cut {n : Nat} {g : Addr → Option Obj} {fa : List He.Fa} {f1 f2 : List He.DefD} {ex : PySem.W.Frag → Bool} : (obsP n fa (f1 ++ f2) ex g).2.1 = ((obsP n fa f1 ex g).2.1 && (obsP n [] f2 ex g).2.1) := by
  obtain ⟨K, e⟩ := obsP_all n g
  simp only [e, He.obsD, List.all_append, List.all_nil, Bool.true_and, Bool.and_assoc]
/-! ### classes -/
/-- a method: found in the class, the very function at p -/
def chkM (K : PySem.W.Frag) (x m : Str) (p : Str × Option Str) : Bool := He.eqO (PySem.W.findIn K (.ref (He.ga K x)) m) (some (some (.ref (He.fAd K p)))) && (PySem.W.isFn K (.ref (He.fAd K p)) && PySem.W.keepIn K (.ref (He.fAd K p)))
def chkK (K : PySem.W.Frag) (x : Str) (p : Str × Option Str) : Bool := PySem.W.makesIn K (He.ga K x) && (He.eqO (PySem.W.findIn K (.ref (He.ga K x)) "__init__") (some (some (.ref (He.fAd K p)))) && (PySem.W.isFn K (.ref (He.fAd K p)) && PySem.W.keepIn K (.ref (He.ga K x))))
/-- C.__init__ read off the class -/
def chkI (K : PySem.W.Frag) (x : Str) (p : Str × Option Str) : Bool := PySem.W.readsIn K (He.ga K x) (.type "type") && (He.eqO (PySem.W.specialIn K (.ref (He.ga K x)) "__getattribute__") (some (some (.builtin "type.__getattribute__"))) &&
  (match PySem.W.findCls K (.ref (He.ga K x)) (.type "type") "__init__" with
  | some (.val (.ref a)) => decide (a = He.fAd K p)
  | _ => false))
def chkB (K : PySem.W.Frag) (x : Str) : Bool := PySem.W.makesIn K (He.ga K x) && (He.eqO (PySem.W.findIn K (.ref (He.ga K x)) "__init__") (some (some (.builtin "object.__init__"))) && (decide (PySem.W.mroIn K (He.ga K x) (.type "object") = some true) && PySem.W.keepIn K (.ref (He.ga K x))))
/-- a class, by its fields, methods, initialiser -/
def chkD (nm : Nat → Str) (at_ : Nat → Str × Option Str) (c : Nat) (cd : CD) (K : PySem.W.Frag) : Bool :=
  ((He.Fa.cls (nm c)).ok K && ((He.Fa.glo (nm c)).ok K && ((if cd.bare then chkB K (nm c) else chkK K (nm c) (at_ cd.init)) && (!cd.base || chkI K (nm c) (at_ cd.init))))) && ((cd.fields.all fun f => (He.Fa.noat (nm c) (nm f)).ok K) && cd.meths.all fun p => chkM K (nm c) (nm p.1) (at_ p.2))
/-- .. and what is plain of it -/
def plnD (nm : Nat → Str) (fn : Nat → Option FD) (cd : CD) : Bool :=
  (cd.bare || (fn cd.init).isSome) && ((cd.fields.all fun f => cd.fields.all fun g => decide (nm f = nm g → f = g)) && cd.meths.all fun p => (fn p.2).isSome && decide (nm p.1 ∉ cd.fields.map nm))
theorem getM_mem {m f : Nat} : ∀ {l : List (Nat × Nat)}, getM m l = some f → (m, f) ∈ l
  | (g, x) :: r, h => by
    unfold getM at h
    split at h
    · rename_i e; cases h; subst e; exact List.mem_cons_self
    · exact List.mem_cons_of_mem _ (getM_mem h)
def getC (f : Nat) : List (Nat × CD) → Option CD
  | [] => none
  | (g, x) :: r => if g = f then some x else getC f r
theorem getC_mem {m : Nat} {f : CD} : ∀ {l : List (Nat × CD)}, getC m l = some f → (m, f) ∈ l
  | (g, x) :: r, h => by
    unfold getC at h
    split at h
    · rename_i e; cases h; subst e; exact List.mem_cons_self
    · exact List.mem_cons_of_mem _ (getC_mem h)
end Py

set_option linter.all false
set_option maxRecDepth 100000
/-! The text of law 15 in our syntax (printed by gen.py). -/
namespace Py
open PySem
abbrev n__wall : Nat := 0
abbrev n_plains : Nat := 1
abbrev n_leaf_of : Nat := 2
abbrev n_thing_term_of : Nat := 3
abbrev n_term_of : Nat := 4
abbrev n__law_cell_at : Nat := 5
abbrev n__law_mixed : Nat := 6
abbrev n__law_name : Nat := 7
abbrev n__law_atom : Nat := 8
abbrev n__law_taken : Nat := 9
abbrev n__law_about : Nat := 10
abbrev n__law_joined : Nat := 11
abbrev n__law_term : Nat := 12
abbrev n__law_parts : Nat := 13
abbrev n__law_measured : Nat := 14
abbrev n__law_whole : Nat := 15
abbrev n_law : Nat := 16
abbrev n_Term : Nat := 17
abbrev n_NumberTerm : Nat := 18
abbrev n_TruthTerm : Nat := 19
abbrev n_NameTerm : Nat := 20
abbrev n_SelfTerm : Nat := 21
abbrev n_NewTerm : Nat := 22
abbrev n_ElderTerm : Nat := 23
abbrev n_FieldTerm : Nat := 24
abbrev n_CallTerm : Nat := 25
abbrev n_NotTerm : Nat := 26
abbrev n_TwoTerm : Nat := 27
abbrev n_IfTerm : Nat := 28
abbrev n_LetTerm : Nat := 29
abbrev n_SetTerm : Nat := 30
abbrev n_Term___init__ : Nat := 31
abbrev n_Term_meet : Nat := 32
abbrev n_Term_plain : Nat := 33
abbrev n_Term_parts : Nat := 34
abbrev n_Term_depth : Nat := 35
abbrev n_Term_size : Nat := 36
abbrev n_NumberTerm___init__ : Nat := 37
abbrev n_NumberTerm_meet : Nat := 38
abbrev n_NumberTerm_plain : Nat := 39
abbrev n_TruthTerm___init__ : Nat := 40
abbrev n_TruthTerm_meet : Nat := 41
abbrev n_TruthTerm_plain : Nat := 42
abbrev n_NameTerm___init__ : Nat := 43
abbrev n_NameTerm_meet : Nat := 44
abbrev n_NameTerm_plain : Nat := 45
abbrev n_SelfTerm___init__ : Nat := 46
abbrev n_SelfTerm_meet : Nat := 47
abbrev n_SelfTerm_plain : Nat := 48
abbrev n_NewTerm___init__ : Nat := 49
abbrev n_NewTerm_meet : Nat := 50
abbrev n_NewTerm_plain : Nat := 51
abbrev n_ElderTerm___init__ : Nat := 52
abbrev n_ElderTerm_meet : Nat := 53
abbrev n_ElderTerm_plain : Nat := 54
abbrev n_FieldTerm___init__ : Nat := 55
abbrev n_FieldTerm_meet : Nat := 56
abbrev n_FieldTerm_plain : Nat := 57
abbrev n_CallTerm___init__ : Nat := 58
abbrev n_CallTerm_meet : Nat := 59
abbrev n_CallTerm_plain : Nat := 60
abbrev n_NotTerm___init__ : Nat := 61
abbrev n_NotTerm_meet : Nat := 62
abbrev n_NotTerm_plain : Nat := 63
abbrev n_TwoTerm___init__ : Nat := 64
abbrev n_TwoTerm_meet : Nat := 65
abbrev n_TwoTerm_plain : Nat := 66
abbrev n_IfTerm___init__ : Nat := 67
abbrev n_IfTerm_meet : Nat := 68
abbrev n_IfTerm_plain : Nat := 69
abbrev n_LetTerm___init__ : Nat := 70
abbrev n_LetTerm_meet : Nat := 71
abbrev n_LetTerm_plain : Nat := 72
abbrev n_SetTerm___init__ : Nat := 73
abbrev n_SetTerm_meet : Nat := 74
abbrev n_SetTerm_plain : Nat := 75
abbrev n_plain : Nat := 76
abbrev n_parts : Nat := 77
abbrev n_size : Nat := 78
abbrev n_depth : Nat := 79
abbrev n_many : Nat := 80
abbrev n_height : Nat := 81
abbrev n_inner : Nat := 82
abbrev n_number : Nat := 83
abbrev n_is_yes : Nat := 84
abbrev n_called : Nat := 85
abbrev n_thing : Nat := 86
abbrev n_given : Nat := 87
abbrev n_one : Nat := 88
abbrev n_other : Nat := 89
abbrev n_sign : Nat := 90
abbrev n_third : Nat := 91
abbrev n_meet : Nat := 92
def tab0 : List Str := ["_wall", "plains", "leaf_of", "thing_term_of", "term_of", "_law_cell_at", "_law_mixed", "_law_name", "_law_atom", "_law_taken", "_law_about", "_law_joined", "_law_term", "_law_parts", "_law_measured", "_law_whole", "law", "Term", "NumberTerm", "TruthTerm", "NameTerm", "SelfTerm", "NewTerm", "ElderTerm", "FieldTerm", "CallTerm", "NotTerm", "TwoTerm", "IfTerm", "LetTerm"]
def tab1 : List Str := ["SetTerm", "__init__", "meet", "plain", "parts", "depth", "size", "__init__", "meet", "plain", "__init__", "meet", "plain", "__init__", "meet", "plain", "__init__", "meet", "plain", "__init__", "meet", "plain", "__init__", "meet", "plain", "__init__", "meet", "plain", "__init__", "meet"]
def tab2 : List Str := ["plain", "__init__", "meet", "plain", "__init__", "meet", "plain", "__init__", "meet", "plain", "__init__", "meet", "plain", "__init__", "meet", "plain", "plain", "parts", "size", "depth", "many", "height", "inner", "number", "is_yes", "called", "thing", "given", "one", "other"]
def tab3 : List Str := ["sign", "third", "meet"]
def nmT (i : Nat) : Str := (tab0 ++ tab1 ++ tab2 ++ tab3).getD i ""
/-- _wall(k) -/
def b__wall : B :=
  (.cons (.whl (.v (.bl true)) (.cons .pas
  .nil))
  .nil)
def d__wall : FD := ⟨1, 1, b__wall, [], none⟩
/-- plains(terms, term) -/
def b_plains : B :=
  (.cons (.ret (.bf .tuple1 (.cons (.lc (.meth (.var 1) n_plain .nil) (.nm 1) (.seq (.var 0)) .no) .nil)))
  .nil)
def d_plains : FD := ⟨1, 2, b_plains, [], none⟩
/-- leaf_of(plain) -/
def b_leaf_of : B :=
  (.cons (.ife (.cmp .eq (.idx (.var 0) (.int 0)) (.str "number")) (.cons (.ret (.mk n_NumberTerm (.cons (.idx (.var 0) (.int 1)) .nil)))
  .nil) .nil)
  (.cons (.ife (.cmp .eq (.idx (.var 0) (.int 0)) (.str "truth")) (.cons (.ret (.mk n_TruthTerm (.cons (.idx (.var 0) (.int 1)) .nil)))
  .nil) .nil)
  (.cons (.ife (.cmp .eq (.idx (.var 0) (.int 0)) (.str "name")) (.cons (.ret (.mk n_NameTerm (.cons (.idx (.var 0) (.int 1)) .nil)))
  .nil) .nil)
  (.cons (.ife (.cmp .eq (.idx (.var 0) (.int 0)) (.str "self")) (.cons (.ret (.mk n_SelfTerm .nil))
  .nil) .nil)
  (.cons (.ret .non)
  .nil)))))
def d_leaf_of : FD := ⟨1, 1, b_leaf_of, [], none⟩
/-- thing_term_of(plain, part) -/
def b_thing_term_of : B :=
  (.cons (.ife (.cmp .eq (.idx (.var 0) (.int 0)) (.str "new")) (.cons (.ret (.mk n_NewTerm (.cons (.idx (.var 0) (.int 1)) (.cons (.lc (.call n_term_of (.cons (.var 1) .nil)) (.nm 1) (.seq (.idx (.var 0) (.int 2))) .no) .nil))))
  .nil) .nil)
  (.cons (.ife (.cmp .eq (.idx (.var 0) (.int 0)) (.str "elder")) (.cons (.ret (.mk n_ElderTerm (.cons (.idx (.var 0) (.int 1)) (.cons (.lc (.call n_term_of (.cons (.var 1) .nil)) (.nm 1) (.seq (.idx (.var 0) (.int 2))) .no) .nil))))
  .nil) .nil)
  (.cons (.ife (.cmp .eq (.idx (.var 0) (.int 0)) (.str "field")) (.cons (.ret (.mk n_FieldTerm (.cons (.call n_term_of (.cons (.idx (.var 0) (.int 1)) .nil)) (.cons (.idx (.var 0) (.int 2)) .nil))))
  .nil) .nil)
  (.cons (.ife (.cmp .eq (.idx (.var 0) (.int 0)) (.str "call")) (.cons (.ret (.mk n_CallTerm (.cons (.call n_term_of (.cons (.idx (.var 0) (.int 1)) .nil)) (.cons (.idx (.var 0) (.int 2)) (.cons (.lc (.call n_term_of (.cons (.var 1) .nil)) (.nm 1) (.seq (.idx (.var 0) (.int 3))) .no) .nil)))))
  .nil) .nil)
  (.cons (.ife (.cmp .eq (.idx (.var 0) (.int 0)) (.str "set")) (.cons (.ret (.mk n_SetTerm (.cons (.call n_term_of (.cons (.idx (.var 0) (.int 1)) .nil)) (.cons (.idx (.var 0) (.int 2)) (.cons (.call n_term_of (.cons (.idx (.var 0) (.int 3)) .nil)) .nil)))))
  .nil) .nil)
  (.cons (.ret .non)
  .nil))))))
def d_thing_term_of : FD := ⟨1, 2, b_thing_term_of, [], none⟩
/-- term_of(plain, found) -/
def b_term_of : B :=
  (.cons (.asg (.nm 1) (.call n_leaf_of (.cons (.var 0) .nil)))
  (.cons (.ife (.cmp .isN (.var 1) .non) (.cons (.asg (.nm 1) (.call n_thing_term_of (.cons (.var 0) .nil)))
  .nil) .nil)
  (.cons (.ife (.cmp .notN (.var 1) .non) (.cons (.ret (.var 1))
  .nil) .nil)
  (.cons (.ife (.cmp .eq (.idx (.var 0) (.int 0)) (.str "not")) (.cons (.ret (.mk n_NotTerm (.cons (.call n_term_of (.cons (.idx (.var 0) (.int 1)) .nil)) .nil)))
  .nil) .nil)
  (.cons (.ife (.cmp .eq (.idx (.var 0) (.int 0)) (.str "two")) (.cons (.ret (.mk n_TwoTerm (.cons (.idx (.var 0) (.int 1)) (.cons (.call n_term_of (.cons (.idx (.var 0) (.int 2)) .nil)) (.cons (.call n_term_of (.cons (.idx (.var 0) (.int 3)) .nil)) .nil)))))
  .nil) .nil)
  (.cons (.ife (.cmp .eq (.idx (.var 0) (.int 0)) (.str "let")) (.cons (.ret (.mk n_LetTerm (.cons (.idx (.var 0) (.int 1)) (.cons (.call n_term_of (.cons (.idx (.var 0) (.int 2)) .nil)) (.cons (.call n_term_of (.cons (.idx (.var 0) (.int 3)) .nil)) .nil)))))
  .nil) .nil)
  (.cons (.ret (.mk n_IfTerm (.cons (.call n_term_of (.cons (.idx (.var 0) (.int 1)) .nil)) (.cons (.call n_term_of (.cons (.idx (.var 0) (.int 2)) .nil)) (.cons (.call n_term_of (.cons (.idx (.var 0) (.int 3)) .nil)) .nil)))))
  .nil)))))))
def d_term_of : FD := ⟨1, 2, b_term_of, [], none⟩
/-- _law_cell_at(_law_script, _law_k) -/
def b__law_cell_at : B :=
  (.cons (.ife (.cmp .lt (.var 1) (.bf .len (.cons (.var 0) .nil))) (.cons (.ret (.idx (.var 0) (.var 1)))
  .nil) .nil)
  (.cons (.ret (.int 0))
  .nil))
def d__law_cell_at : FD := ⟨2, 2, b__law_cell_at, [], none⟩
/-- _law_mixed(_law_cell, _law_k) -/
def b__law_mixed : B :=
  (.cons (.ret (.bin .fdiv (.bin .mod (.bin .mul (.bin .add (.bin .add (.bin .mod (.bin .mul (.var 0) (.int 48271)) (.int 2147483647)) (.bin .mul (.bin .mul (.int 7919) (.var 1)) (.var 1))) (.bin .mul (.int 104729) (.var 1))) (.int 69621)) (.int 2147483629)) (.int 7)))
  .nil)
def d__law_mixed : FD := ⟨2, 2, b__law_mixed, [], none⟩
/-- _law_name(_law_k, _law_shift, _law_letters, _law_told, _law_rest, _law_size, _law_at, _law_first, _law_name_here, _law_word, _law_j) -/
def b__law_name : B :=
  (.cons (.asg (.nm 2) (.str "abcdefghijklmnopqrstuvwxyz0123456789"))
  (.cons (.asg (.nm 3) (.bm .split (.str "house of has can main let in if then else new self elder set not yes no number truth") (.cons (.str " ") .nil)))
  (.cons (.asg (.nm 4) (.lc (.idx (.var 2) (.bin .mod (.bin .add (.bin .fdiv (.var 1) (.int 7)) (.bin .mul (.int 5) (.var 10))) (.int 36))) (.nm 10) (.rng1 (.int 8)) .no))
  (.cons (.asg (.nm 5) (.bin .add (.int 1) (.bin .mod (.bin .fdiv (.var 1) (.int 5)) (.int 8))))
  (.cons (.asg (.nm 6) (.idx (.lst (.cons (.bin .mod (.bin .fdiv (.var 1) (.int 40)) (.var 5)) (.cons (.int 0) (.cons (.bin .sub (.var 5) (.int 1)) .nil)))) (.bin .mod (.var 1) (.int 3))))
  (.cons (.asg (.sub (.var 4) (.var 6)) (.idx (.var 2) (.bin .mod (.bin .add (.bin .fdiv (.var 1) (.int 11)) (.var 0)) (.int 36))))
  (.cons (.asg (.nm 7) (.idx (.var 2) (.bin .mod (.bin .add (.bin .fdiv (.var 1) (.int 7)) (.bin .mul (.var 0) (.bf .int1 (.cons (.cmp .eq (.bin .mod (.var 1) (.int 3)) (.int 1)) .nil)))) (.int 26))))
  (.cons (.asg (.nm 8) (.bin .add (.var 7) (.bm .join (.str "") (.cons (.slc (.var 4) (.so (.int 1)) (.so (.var 5))) .nil))))
  (.cons (.asg (.nm 9) (.idx (.var 3) (.bin .mod (.bin .add (.bin .fdiv (.var 1) (.int 25)) (.var 0)) (.int 19))))
  (.cons (.ife (.cmp .eq (.bin .mod (.var 1) (.int 5)) (.int 1)) (.cons (.asg (.nm 8) (.bin .add (.var 9) (.idx (.var 2) (.bin .mod (.bin .add (.bin .fdiv (.var 1) (.int 7)) (.var 0)) (.int 36)))))
  .nil) .nil)
  (.cons (.ife (.cmp .eq (.bin .mod (.var 1) (.int 5)) (.int 2)) (.cons (.asg (.nm 8) (.bin .add (.idx (.var 2) (.bin .mod (.bin .add (.bin .fdiv (.var 1) (.int 7)) (.var 0)) (.int 26))) (.var 9)))
  .nil) .nil)
  (.cons (.ife (.cmp .eq (.bin .mod (.var 1) (.int 5)) (.int 3)) (.cons (.asg (.nm 8) (.bm .join (.str "") (.cons (.bin .add (.lst (.cons (.idx (.var 2) (.bin .mod (.bin .fdiv (.var 1) (.int 7)) (.int 26))) .nil)) (.slc (.var 4) (.so (.int 1)) (.so (.bin .add (.int 1) (.bin .mod (.var 0) (.int 8)))))) .nil)))
  .nil) .nil)
  (.cons (.ret (.bin .add (.var 8) (.bin .mul (.str "0") (.bf .int1 (.cons (.cmp .inn (.var 8) (.var 3)) .nil)))))
  .nil)))))))))))))
def d__law_name : FD := ⟨2, 11, b__law_name, [], none⟩
/-- _law_atom(_law_cell, _law_shift) -/
def b__law_atom : B :=
  (.cons (.ife (.cmp .eq (.bin .mod (.var 0) (.int 4)) (.int 0)) (.cons (.ret (.tup (.cons (.str "number") (.cons (.idx (.lst (.cons (.bin .mod (.bin .fdiv (.var 0) (.int 4)) (.int 10)) (.cons (.bin .mod (.bin .fdiv (.var 0) (.int 4)) (.int 1000000000)) .nil))) (.bin .mod (.bin .fdiv (.var 0) (.int 40)) (.int 2))) .nil))))
  .nil) .nil)
  (.cons (.ife (.cmp .eq (.bin .mod (.var 0) (.int 4)) (.int 1)) (.cons (.ret (.idx (.lst (.cons (.tup (.cons (.str "self") .nil)) (.cons (.tup (.cons (.str "truth") (.cons (.bl true) .nil))) (.cons (.tup (.cons (.str "truth") (.cons (.bl false) .nil))) .nil)))) (.bin .mod (.bin .fdiv (.var 0) (.int 4)) (.int 3))))
  .nil) .nil)
  (.cons (.ret (.tup (.cons (.str "name") (.cons (.call n__law_name (.cons (.bin .mod (.bin .fdiv (.var 0) (.int 4)) (.int 12)) (.cons (.var 1) .nil))) .nil))))
  .nil)))
def d__law_atom : FD := ⟨2, 2, b__law_atom, [], none⟩
/-- _law_taken(_law_stack, _law_many, _law_some, _law_k, _law_pair) -/
def b__law_taken : B :=
  (.cons (.asg (.nm 2) (.lc (.bm .pop0 (.var 0) .nil) (.nm 3) (.rng1 (.bf .min2 (.cons (.var 1) (.cons (.bf .len (.cons (.var 0) .nil)) .nil)))) .no))
  (.cons (.asg (.nm 2) (.slr (.var 2)))
  (.cons (.ret (.tup (.cons (.bf .tuple1 (.cons (.lc (.idx (.var 4) (.int 0)) (.nm 4) (.seq (.var 2)) .no) .nil)) (.cons (.bf .maxL (.cons (.bin .add (.lc (.idx (.var 4) (.int 1)) (.nm 4) (.seq (.var 2)) .no) (.lst (.cons (.int 0) .nil))) .nil)) .nil))))
  .nil)))
def d__law_taken : FD := ⟨2, 5, b__law_taken, [], none⟩
/-- _law_about(_law_stack, _law_cell, _law_shift, _law_name_here, _law_terms, _law_deep, _law_many) -/
def b__law_about : B :=
  (.cons (.asg (.nm 3) (.call n__law_name (.cons (.bin .mod (.bin .fdiv (.var 1) (.int 4)) (.int 12)) (.cons (.var 2) .nil))))
  (.cons (.ife (.cmp .eq (.bin .mod (.var 1) (.int 4)) (.int 3)) (.cons (.asg (.tup (.cons (.nm 4) (.cons (.nm 5) .nil))) (.call n__law_taken (.cons (.var 0) (.cons (.int 1) .nil))))
  (.cons (.ret (.tup (.cons (.tup (.cons (.str "field") (.cons (.idx (.var 4) (.int 0)) (.cons (.var 3) .nil)))) (.cons (.bin .add (.var 5) (.int 1)) .nil))))
  .nil)) .nil)
  (.cons (.asg (.nm 6) (.idx (.lst (.cons (.int 0) (.cons (.int 1) (.cons (.int 2) (.cons (.int 3) (.cons (.int 8) (.cons (.int 1) (.cons (.int 2) (.cons (.int 5) .nil))))))))) (.bin .mod (.bin .fdiv (.var 1) (.int 48)) (.int 8))))
  (.cons (.ife (.cmp .eq (.bin .mod (.var 1) (.int 4)) (.int 2)) (.cons (.asg (.tup (.cons (.nm 4) (.cons (.nm 5) .nil))) (.call n__law_taken (.cons (.var 0) (.cons (.bin .add (.bf .min2 (.cons (.var 6) (.cons (.int 7) .nil))) (.int 1)) .nil))))
  (.cons (.ret (.tup (.cons (.tup (.cons (.str "call") (.cons (.idx (.var 4) (.int 0)) (.cons (.var 3) (.cons (.slc (.var 4) (.so (.int 1)) .no) .nil))))) (.cons (.bin .add (.var 5) (.int 1)) .nil))))
  .nil)) .nil)
  (.cons (.asg (.tup (.cons (.nm 4) (.cons (.nm 5) .nil))) (.call n__law_taken (.cons (.var 0) (.cons (.var 6) .nil))))
  (.cons (.ret (.tup (.cons (.tup (.cons (.idx (.lst (.cons (.str "new") (.cons (.str "elder") .nil))) (.bin .mod (.var 1) (.int 4))) (.cons (.var 3) (.cons (.var 4) .nil)))) (.cons (.bin .add (.var 5) (.int 1)) .nil))))
  .nil))))))
def d__law_about : FD := ⟨3, 7, b__law_about, [], none⟩
/-- _law_joined(_law_stack, _law_cell, _law_shift, _law_name_here, _law_terms, _law_deep) -/
def b__law_joined : B :=
  (.cons (.asg (.nm 3) (.call n__law_name (.cons (.bin .mod (.bin .fdiv (.var 1) (.int 7)) (.int 12)) (.cons (.var 2) .nil))))
  (.cons (.ife (.and (.cmp .eq (.bin .mod (.var 1) (.int 7)) (.int 0)) (.cmp .gt (.bf .len (.cons (.var 0) .nil)) (.int 2))) (.cons (.asg (.tup (.cons (.nm 4) (.cons (.nm 5) .nil))) (.call n__law_taken (.cons (.var 0) (.cons (.int 3) .nil))))
  (.cons (.ret (.tup (.cons (.bin .add (.tup (.cons (.str "if") .nil)) (.var 4)) (.cons (.bin .add (.var 5) (.int 1)) .nil))))
  .nil)) .nil)
  (.cons (.ife (.cmp .eq (.bin .mod (.var 1) (.int 7)) (.int 1)) (.cons (.asg (.tup (.cons (.nm 4) (.cons (.nm 5) .nil))) (.call n__law_taken (.cons (.var 0) (.cons (.int 1) .nil))))
  (.cons (.ret (.tup (.cons (.tup (.cons (.str "not") (.cons (.idx (.var 4) (.int 0)) .nil))) (.cons (.bin .add (.var 5) (.int 1)) .nil))))
  .nil)) .nil)
  (.cons (.asg (.tup (.cons (.nm 4) (.cons (.nm 5) .nil))) (.call n__law_taken (.cons (.var 0) (.cons (.int 2) .nil))))
  (.cons (.ife (.cmp .lt (.bf .len (.cons (.var 4) .nil)) (.int 2)) (.cons (.ret (.tup (.cons (.tup (.cons (.str "not") (.cons (.idx (.var 4) (.int 0)) .nil))) (.cons (.bin .add (.var 5) (.int 1)) .nil))))
  .nil) .nil)
  (.cons (.ife (.cmp .eq (.bin .mod (.var 1) (.int 7)) (.int 2)) (.cons (.ret (.tup (.cons (.bin .add (.tup (.cons (.str "let") (.cons (.var 3) .nil))) (.var 4)) (.cons (.bin .add (.var 5) (.int 1)) .nil))))
  .nil) .nil)
  (.cons (.ife (.cmp .eq (.bin .mod (.var 1) (.int 7)) (.int 3)) (.cons (.ret (.tup (.cons (.tup (.cons (.str "set") (.cons (.idx (.var 4) (.int 0)) (.cons (.var 3) (.cons (.idx (.var 4) (.int 1)) .nil))))) (.cons (.bin .add (.var 5) (.int 1)) .nil))))
  .nil) .nil)
  (.cons (.ret (.tup (.cons (.bin .add (.tup (.cons (.str "two") (.cons (.idx (.str "+-*/<=;") (.bin .mod (.bin .fdiv (.var 1) (.int 7)) (.int 7))) .nil))) (.var 4)) (.cons (.bin .add (.var 5) (.int 1)) .nil))))
  .nil))))))))
def d__law_joined : FD := ⟨3, 6, b__law_joined, [], none⟩
/-- _law_term(_law_cells, _law_shift, _law_stack, _law_k, _law_cell, _law_pair) -/
def b__law_term : B :=
  (.cons (.asg (.nm 2) (.lst (.cons (.tup (.cons (.call n__law_atom (.cons (.int 0) (.cons (.var 1) .nil))) (.cons (.int 1) .nil))) .nil)))
  (.cons (.for (.tup (.cons (.nm 3) (.cons (.nm 4) .nil))) (.enu (.var 0)) (.cons (.asg (.nm 4) (.call n__law_mixed (.cons (.var 4) (.cons (.var 3) .nil))))
  (.cons (.ife (.or (.cmp .lt (.bin .mod (.var 4) (.int 5)) (.int 2)) (.cmp .gt (.bf .len (.cons (.lc (.var 5) (.nm 5) (.seq (.slc (.var 2) (.so (.neg (.int 9))) .no)) (.so (.cmp .gt (.idx (.var 5) (.int 1)) (.int 13)))) .nil)) (.int 0))) (.cons (.exp (.bm .append (.var 2) (.cons (.tup (.cons (.call n__law_atom (.cons (.bin .fdiv (.var 4) (.int 5)) (.cons (.var 1) .nil))) (.cons (.int 1) .nil))) .nil)))
  .nil) (.cons (.ife (.cmp .eq (.bin .mod (.var 4) (.int 5)) (.int 2)) (.cons (.exp (.bm .append (.var 2) (.cons (.call n__law_about (.cons (.var 2) (.cons (.bin .fdiv (.var 4) (.int 5)) (.cons (.var 1) .nil)))) .nil)))
  .nil) (.cons (.exp (.bm .append (.var 2) (.cons (.call n__law_joined (.cons (.var 2) (.cons (.bin .fdiv (.var 4) (.int 5)) (.cons (.var 1) .nil)))) .nil)))
  .nil))
  .nil))
  (.cons (.ife (.cmp .gt (.idx (.idx (.var 2) (.neg (.int 1))) (.int 1)) (.int 13)) (.cons (.asg (.nm 2) (.bin .add (.lst (.cons (.tup (.cons (.idx (.idx (.var 2) (.neg (.int 1))) (.int 0)) (.cons (.int 14) .nil))) .nil)) (.slc (.var 2) .no (.so (.neg (.int 1))))))
  .nil) .nil)
  .nil))))
  (.cons (.ret (.idx (.idx (.var 2) (.neg (.int 1))) (.int 0)))
  .nil)))
def d__law_term : FD := ⟨2, 6, b__law_term, [], none⟩
/-- _law_parts(_law_term_here, _law_found, _law_part) -/
def b__law_parts : B :=
  (.cons (.asg (.nm 1) (.lst .nil))
  (.cons (.for (.nm 2) (.seq (.slc (.var 0) (.so (.int 1)) .no)) (.cons (.ife (.and (.v (.isi .isTuple (.var 2))) (.and (.cmp .ne (.var 2) (.tup .nil)) (.v (.isi .isTuple (.idx (.var 2) (.int 0)))))) (.cons (.asg (.nm 1) (.bin .add (.var 1) (.bf .list1 (.cons (.var 2) .nil))))
  .nil) (.cons (.ife (.and (.v (.isi .isTuple (.var 2))) (.cmp .ne (.var 2) (.tup .nil))) (.cons (.exp (.bm .append (.var 1) (.cons (.var 2) .nil)))
  .nil) .nil)
  .nil))
  .nil))
  (.cons (.ret (.var 1))
  .nil)))
def d__law_parts : FD := ⟨1, 3, b__law_parts, [], none⟩
/-- _law_measured(_law_term_here, _law_rows, _law_part, _law_row) -/
def b__law_measured : B :=
  (.cons (.asg (.nm 1) (.lc (.call n__law_measured (.cons (.var 2) .nil)) (.nm 2) (.seq (.call n__law_parts (.cons (.var 0) .nil))) .no))
  (.cons (.ret (.tup (.cons (.bin .add (.int 1) (.bf .maxL (.cons (.bin .add (.lc (.idx (.var 3) (.int 0)) (.nm 3) (.seq (.var 1)) .no) (.lst (.cons (.int 0) .nil))) .nil))) (.cons (.bin .add (.int 1) (.bf .sumL (.cons (.lc (.idx (.var 3) (.int 1)) (.nm 3) (.seq (.var 1)) .no) .nil))) .nil))))
  .nil))
def d__law_measured : FD := ⟨1, 4, b__law_measured, [], none⟩
/-- _law_whole(_law_found) -/
def b__law_whole : B :=
  (.cons (.ret (.and (.isi .isInt (.var 0)) (.nt (.isi .isBool (.var 0)))))
  .nil)
def d__law_whole : FD := ⟨1, 1, b__law_whole, [], none⟩
/-- law(_law_script, _law_plain, _law_waiting, _law_held, _law_term_here, _law_due, _law_found, _law_parts_here, _law_told, _law_other, _law_part, _law_one, _law_pair) -/
def b_law : B :=
  (.cons (.asg (.nm 1) (.call n__law_term (.cons (.slc (.var 0) (.so (.int 1)) (.so (.int 41))) (.cons (.call n__law_cell_at (.cons (.var 0) (.cons (.int 0) .nil))) .nil))))
  (.cons (.asg (.nm 2) (.lst (.cons (.tup (.cons (.call n_term_of (.cons (.var 1) .nil)) (.cons (.var 1) .nil))) .nil)))
  (.cons (.asg (.nm 3) (.lst .nil))
  (.cons (.whl (.cmp .ne (.var 2) (.lst .nil)) (.cons (.asg (.tup (.cons (.nm 4) (.cons (.nm 5) .nil))) (.bm .pop0 (.var 2) .nil))
  (.cons (.asg (.nm 6) (.meth (.var 4) n_parts .nil))
  (.cons (.asg (.nm 7) (.call n__law_parts (.cons (.var 5) .nil)))
  (.cons (.ife (.or (.nt (.v (.isi .isList (.var 6)))) (.cmp .ne (.lc (.meth (.var 10) n_plain .nil) (.nm 10) (.seq (.var 6)) .no) (.var 7))) (.cons (.ret (.bl false))
  .nil) .nil)
  (.cons (.asg (.nm 8) (.tup (.cons (.meth (.var 4) n_depth .nil) (.cons (.meth (.var 4) n_size .nil) .nil))))
  (.cons (.ife (.or (.cmp .ne (.bf .repr1 (.cons (.meth (.var 4) n_plain .nil) .nil)) (.bf .repr1 (.cons (.var 5) .nil))) (.or (.cmp .ne (.var 8) (.call n__law_measured (.cons (.var 5) .nil))) (.nt (.v (.bf .all1 (.cons (.lc (.call n__law_whole (.cons (.var 11) .nil)) (.nm 11) (.seq (.var 8)) .no) .nil)))))) (.cons (.ret (.bl false))
  .nil) .nil)
  (.cons (.exp (.bm .append (.var 3) (.cons (.tup (.cons (.var 6) (.cons (.bf .len (.cons (.var 7) .nil)) .nil))) .nil)))
  (.cons (.asg (.nm 2) (.bin .add (.var 2) (.lzip (.var 6) (.var 7))))
  (.cons (.asg (.nm 9) (.meth (.var 4) n_parts .nil))
  (.cons (.exp (.bm .append (.var 9) (.cons .non .nil)))
  (.cons (.ife (.cmp .ne (.bf .len (.cons (.meth (.var 4) n_parts .nil) .nil)) (.bf .len (.cons (.var 7) .nil))) (.cons (.ret (.bl false))
  .nil) .nil)
  .nil))))))))))))
  (.cons (.ret (.cmp .eq (.lc (.var 12) (.nm 12) (.seq (.var 3)) (.so (.cmp .ne (.bf .len (.cons (.idx (.var 12) (.int 0)) .nil)) (.idx (.var 12) (.int 1))))) (.lst .nil)))
  .nil)))))
def d_law : FD := ⟨1, 13, b_law, [], none⟩
/-- Term.__init__(self, inner, part) -/
def b_Term___init__ : B :=
  (.cons (.asg (.attr (.var 0) n_inner) (.bf .list1 (.cons (.var 1) .nil)))
  (.cons (.asg (.attr (.var 0) n_height) (.bin .add (.int 1) (.bf .maxL (.cons (.bin .add (.lc (.attr (.var 2) n_height) (.nm 2) (.seq (.var 1)) .no) (.lst (.cons (.int 0) .nil))) .nil))))
  (.cons (.asg (.attr (.var 0) n_many) (.bin .add (.int 1) (.bf .sumL (.cons (.lc (.attr (.var 2) n_many) (.nm 2) (.seq (.var 1)) .no) .nil))))
  .nil)))
def d_Term___init__ : FD := ⟨2, 3, b_Term___init__, [], none⟩
/-- Term.meet(self, guest) -/
def b_Term_meet : B :=
  (.cons (.exp (.call n__wall (.cons (.int 0) .nil)))
  .nil)
def d_Term_meet : FD := ⟨2, 2, b_Term_meet, [], none⟩
/-- Term.plain(self) -/
def b_Term_plain : B :=
  (.cons .rai0
  .nil)
def d_Term_plain : FD := ⟨1, 1, b_Term_plain, [], none⟩
/-- Term.parts(self) -/
def b_Term_parts : B :=
  (.cons (.ret (.bf .list1 (.cons (.attr (.var 0) n_inner) .nil)))
  .nil)
def d_Term_parts : FD := ⟨1, 1, b_Term_parts, [], none⟩
/-- Term.depth(self) -/
def b_Term_depth : B :=
  (.cons (.ret (.attr (.var 0) n_height))
  .nil)
def d_Term_depth : FD := ⟨1, 1, b_Term_depth, [], none⟩
/-- Term.size(self) -/
def b_Term_size : B :=
  (.cons (.ret (.attr (.var 0) n_many))
  .nil)
def d_Term_size : FD := ⟨1, 1, b_Term_size, [], none⟩
/-- NumberTerm.__init__(self, number) -/
def b_NumberTerm___init__ : B :=
  (.cons (.exp (.ini n_Term (.cons (.var 0) (.cons (.lst .nil) .nil))))
  (.cons (.asg (.attr (.var 0) n_number) (.var 1))
  .nil))
def d_NumberTerm___init__ : FD := ⟨2, 2, b_NumberTerm___init__, [], none⟩
/-- NumberTerm.meet(self, guest) -/
def b_NumberTerm_meet : B :=
  (.cons (.exp (.call n__wall (.cons (.int 1) .nil)))
  .nil)
def d_NumberTerm_meet : FD := ⟨2, 2, b_NumberTerm_meet, [], none⟩
/-- NumberTerm.plain(self) -/
def b_NumberTerm_plain : B :=
  (.cons (.ret (.tup (.cons (.str "number") (.cons (.attr (.var 0) n_number) .nil))))
  .nil)
def d_NumberTerm_plain : FD := ⟨1, 1, b_NumberTerm_plain, [], none⟩
/-- TruthTerm.__init__(self, is_yes) -/
def b_TruthTerm___init__ : B :=
  (.cons (.exp (.ini n_Term (.cons (.var 0) (.cons (.lst .nil) .nil))))
  (.cons (.asg (.attr (.var 0) n_is_yes) (.var 1))
  .nil))
def d_TruthTerm___init__ : FD := ⟨2, 2, b_TruthTerm___init__, [], none⟩
/-- TruthTerm.meet(self, guest) -/
def b_TruthTerm_meet : B :=
  (.cons (.exp (.call n__wall (.cons (.int 2) .nil)))
  .nil)
def d_TruthTerm_meet : FD := ⟨2, 2, b_TruthTerm_meet, [], none⟩
/-- TruthTerm.plain(self) -/
def b_TruthTerm_plain : B :=
  (.cons (.ret (.tup (.cons (.str "truth") (.cons (.attr (.var 0) n_is_yes) .nil))))
  .nil)
def d_TruthTerm_plain : FD := ⟨1, 1, b_TruthTerm_plain, [], none⟩
/-- NameTerm.__init__(self, called) -/
def b_NameTerm___init__ : B :=
  (.cons (.exp (.ini n_Term (.cons (.var 0) (.cons (.lst .nil) .nil))))
  (.cons (.asg (.attr (.var 0) n_called) (.var 1))
  .nil))
def d_NameTerm___init__ : FD := ⟨2, 2, b_NameTerm___init__, [], none⟩
/-- NameTerm.meet(self, guest) -/
def b_NameTerm_meet : B :=
  (.cons (.exp (.call n__wall (.cons (.int 3) .nil)))
  .nil)
def d_NameTerm_meet : FD := ⟨2, 2, b_NameTerm_meet, [], none⟩
/-- NameTerm.plain(self) -/
def b_NameTerm_plain : B :=
  (.cons (.ret (.tup (.cons (.str "name") (.cons (.attr (.var 0) n_called) .nil))))
  .nil)
def d_NameTerm_plain : FD := ⟨1, 1, b_NameTerm_plain, [], none⟩
/-- SelfTerm.__init__(self) -/
def b_SelfTerm___init__ : B :=
  (.cons (.exp (.ini n_Term (.cons (.var 0) (.cons (.lst .nil) .nil))))
  .nil)
def d_SelfTerm___init__ : FD := ⟨1, 1, b_SelfTerm___init__, [], none⟩
/-- SelfTerm.meet(self, guest) -/
def b_SelfTerm_meet : B :=
  (.cons (.exp (.call n__wall (.cons (.int 4) .nil)))
  .nil)
def d_SelfTerm_meet : FD := ⟨2, 2, b_SelfTerm_meet, [], none⟩
/-- SelfTerm.plain(self) -/
def b_SelfTerm_plain : B :=
  (.cons (.ret (.tup (.cons (.str "self") .nil)))
  .nil)
def d_SelfTerm_plain : FD := ⟨1, 1, b_SelfTerm_plain, [], none⟩
/-- NewTerm.__init__(self, called, given) -/
def b_NewTerm___init__ : B :=
  (.cons (.exp (.ini n_Term (.cons (.var 0) (.cons (.var 2) .nil))))
  (.cons (.asg (.attr (.var 0) n_called) (.var 1))
  .nil))
def d_NewTerm___init__ : FD := ⟨3, 3, b_NewTerm___init__, [], none⟩
/-- NewTerm.meet(self, guest) -/
def b_NewTerm_meet : B :=
  (.cons (.exp (.call n__wall (.cons (.int 5) .nil)))
  .nil)
def d_NewTerm_meet : FD := ⟨2, 2, b_NewTerm_meet, [], none⟩
/-- NewTerm.plain(self) -/
def b_NewTerm_plain : B :=
  (.cons (.ret (.tup (.cons (.str "new") (.cons (.attr (.var 0) n_called) (.cons (.call n_plains (.cons (.attr (.var 0) n_inner) .nil)) .nil)))))
  .nil)
def d_NewTerm_plain : FD := ⟨1, 1, b_NewTerm_plain, [], none⟩
/-- ElderTerm.__init__(self, called, given) -/
def b_ElderTerm___init__ : B :=
  (.cons (.exp (.ini n_Term (.cons (.var 0) (.cons (.var 2) .nil))))
  (.cons (.asg (.attr (.var 0) n_called) (.var 1))
  .nil))
def d_ElderTerm___init__ : FD := ⟨3, 3, b_ElderTerm___init__, [], none⟩
/-- ElderTerm.meet(self, guest) -/
def b_ElderTerm_meet : B :=
  (.cons (.exp (.call n__wall (.cons (.int 6) .nil)))
  .nil)
def d_ElderTerm_meet : FD := ⟨2, 2, b_ElderTerm_meet, [], none⟩
/-- ElderTerm.plain(self) -/
def b_ElderTerm_plain : B :=
  (.cons (.ret (.tup (.cons (.str "elder") (.cons (.attr (.var 0) n_called) (.cons (.call n_plains (.cons (.attr (.var 0) n_inner) .nil)) .nil)))))
  .nil)
def d_ElderTerm_plain : FD := ⟨1, 1, b_ElderTerm_plain, [], none⟩
/-- FieldTerm.__init__(self, thing, called) -/
def b_FieldTerm___init__ : B :=
  (.cons (.exp (.ini n_Term (.cons (.var 0) (.cons (.lst (.cons (.var 1) .nil)) .nil))))
  (.cons (.asg (.attr (.var 0) n_thing) (.var 1))
  (.cons (.asg (.attr (.var 0) n_called) (.var 2))
  .nil)))
def d_FieldTerm___init__ : FD := ⟨3, 3, b_FieldTerm___init__, [], none⟩
/-- FieldTerm.meet(self, guest) -/
def b_FieldTerm_meet : B :=
  (.cons (.exp (.call n__wall (.cons (.int 7) .nil)))
  .nil)
def d_FieldTerm_meet : FD := ⟨2, 2, b_FieldTerm_meet, [], none⟩
/-- FieldTerm.plain(self) -/
def b_FieldTerm_plain : B :=
  (.cons (.ret (.tup (.cons (.str "field") (.cons (.meth (.attr (.var 0) n_thing) n_plain .nil) (.cons (.attr (.var 0) n_called) .nil)))))
  .nil)
def d_FieldTerm_plain : FD := ⟨1, 1, b_FieldTerm_plain, [], none⟩
/-- CallTerm.__init__(self, thing, called, given) -/
def b_CallTerm___init__ : B :=
  (.cons (.exp (.ini n_Term (.cons (.var 0) (.cons (.bin .add (.lst (.cons (.var 1) .nil)) (.bf .list1 (.cons (.var 3) .nil))) .nil))))
  (.cons (.asg (.attr (.var 0) n_thing) (.var 1))
  (.cons (.asg (.attr (.var 0) n_called) (.var 2))
  (.cons (.asg (.attr (.var 0) n_given) (.bf .list1 (.cons (.var 3) .nil)))
  .nil))))
def d_CallTerm___init__ : FD := ⟨4, 4, b_CallTerm___init__, [], none⟩
/-- CallTerm.meet(self, guest) -/
def b_CallTerm_meet : B :=
  (.cons (.exp (.call n__wall (.cons (.int 8) .nil)))
  .nil)
def d_CallTerm_meet : FD := ⟨2, 2, b_CallTerm_meet, [], none⟩
/-- CallTerm.plain(self) -/
def b_CallTerm_plain : B :=
  (.cons (.ret (.tup (.cons (.str "call") (.cons (.meth (.attr (.var 0) n_thing) n_plain .nil) (.cons (.attr (.var 0) n_called) (.cons (.call n_plains (.cons (.attr (.var 0) n_given) .nil)) .nil))))))
  .nil)
def d_CallTerm_plain : FD := ⟨1, 1, b_CallTerm_plain, [], none⟩
/-- NotTerm.__init__(self, one) -/
def b_NotTerm___init__ : B :=
  (.cons (.exp (.ini n_Term (.cons (.var 0) (.cons (.lst (.cons (.var 1) .nil)) .nil))))
  (.cons (.asg (.attr (.var 0) n_one) (.var 1))
  .nil))
def d_NotTerm___init__ : FD := ⟨2, 2, b_NotTerm___init__, [], none⟩
/-- NotTerm.meet(self, guest) -/
def b_NotTerm_meet : B :=
  (.cons (.exp (.call n__wall (.cons (.int 9) .nil)))
  .nil)
def d_NotTerm_meet : FD := ⟨2, 2, b_NotTerm_meet, [], none⟩
/-- NotTerm.plain(self) -/
def b_NotTerm_plain : B :=
  (.cons (.ret (.tup (.cons (.str "not") (.cons (.meth (.attr (.var 0) n_one) n_plain .nil) .nil))))
  .nil)
def d_NotTerm_plain : FD := ⟨1, 1, b_NotTerm_plain, [], none⟩
/-- TwoTerm.__init__(self, sign, one, other) -/
def b_TwoTerm___init__ : B :=
  (.cons (.exp (.ini n_Term (.cons (.var 0) (.cons (.lst (.cons (.var 2) (.cons (.var 3) .nil))) .nil))))
  (.cons (.asg (.attr (.var 0) n_sign) (.var 1))
  (.cons (.asg (.attr (.var 0) n_one) (.var 2))
  (.cons (.asg (.attr (.var 0) n_other) (.var 3))
  .nil))))
def d_TwoTerm___init__ : FD := ⟨4, 4, b_TwoTerm___init__, [], none⟩
/-- TwoTerm.meet(self, guest) -/
def b_TwoTerm_meet : B :=
  (.cons (.exp (.call n__wall (.cons (.int 10) .nil)))
  .nil)
def d_TwoTerm_meet : FD := ⟨2, 2, b_TwoTerm_meet, [], none⟩
/-- TwoTerm.plain(self) -/
def b_TwoTerm_plain : B :=
  (.cons (.ret (.tup (.cons (.str "two") (.cons (.attr (.var 0) n_sign) (.cons (.meth (.attr (.var 0) n_one) n_plain .nil) (.cons (.meth (.attr (.var 0) n_other) n_plain .nil) .nil))))))
  .nil)
def d_TwoTerm_plain : FD := ⟨1, 1, b_TwoTerm_plain, [], none⟩
/-- IfTerm.__init__(self, one, other, third) -/
def b_IfTerm___init__ : B :=
  (.cons (.exp (.ini n_Term (.cons (.var 0) (.cons (.lst (.cons (.var 1) (.cons (.var 2) (.cons (.var 3) .nil)))) .nil))))
  (.cons (.asg (.attr (.var 0) n_one) (.var 1))
  (.cons (.asg (.attr (.var 0) n_other) (.var 2))
  (.cons (.asg (.attr (.var 0) n_third) (.var 3))
  .nil))))
def d_IfTerm___init__ : FD := ⟨4, 4, b_IfTerm___init__, [], none⟩
/-- IfTerm.meet(self, guest) -/
def b_IfTerm_meet : B :=
  (.cons (.exp (.call n__wall (.cons (.int 11) .nil)))
  .nil)
def d_IfTerm_meet : FD := ⟨2, 2, b_IfTerm_meet, [], none⟩
/-- IfTerm.plain(self) -/
def b_IfTerm_plain : B :=
  (.cons (.ret (.tup (.cons (.str "if") (.cons (.meth (.attr (.var 0) n_one) n_plain .nil) (.cons (.meth (.attr (.var 0) n_other) n_plain .nil) (.cons (.meth (.attr (.var 0) n_third) n_plain .nil) .nil))))))
  .nil)
def d_IfTerm_plain : FD := ⟨1, 1, b_IfTerm_plain, [], none⟩
/-- LetTerm.__init__(self, called, one, other) -/
def b_LetTerm___init__ : B :=
  (.cons (.exp (.ini n_Term (.cons (.var 0) (.cons (.lst (.cons (.var 2) (.cons (.var 3) .nil))) .nil))))
  (.cons (.asg (.attr (.var 0) n_called) (.var 1))
  (.cons (.asg (.attr (.var 0) n_one) (.var 2))
  (.cons (.asg (.attr (.var 0) n_other) (.var 3))
  .nil))))
def d_LetTerm___init__ : FD := ⟨4, 4, b_LetTerm___init__, [], none⟩
/-- LetTerm.meet(self, guest) -/
def b_LetTerm_meet : B :=
  (.cons (.exp (.call n__wall (.cons (.int 12) .nil)))
  .nil)
def d_LetTerm_meet : FD := ⟨2, 2, b_LetTerm_meet, [], none⟩
/-- LetTerm.plain(self) -/
def b_LetTerm_plain : B :=
  (.cons (.ret (.tup (.cons (.str "let") (.cons (.attr (.var 0) n_called) (.cons (.meth (.attr (.var 0) n_one) n_plain .nil) (.cons (.meth (.attr (.var 0) n_other) n_plain .nil) .nil))))))
  .nil)
def d_LetTerm_plain : FD := ⟨1, 1, b_LetTerm_plain, [], none⟩
/-- SetTerm.__init__(self, thing, called, other) -/
def b_SetTerm___init__ : B :=
  (.cons (.exp (.ini n_Term (.cons (.var 0) (.cons (.lst (.cons (.var 1) (.cons (.var 3) .nil))) .nil))))
  (.cons (.asg (.attr (.var 0) n_thing) (.var 1))
  (.cons (.asg (.attr (.var 0) n_called) (.var 2))
  (.cons (.asg (.attr (.var 0) n_other) (.var 3))
  .nil))))
def d_SetTerm___init__ : FD := ⟨4, 4, b_SetTerm___init__, [], none⟩
/-- SetTerm.meet(self, guest) -/
def b_SetTerm_meet : B :=
  (.cons (.exp (.call n__wall (.cons (.int 13) .nil)))
  .nil)
def d_SetTerm_meet : FD := ⟨2, 2, b_SetTerm_meet, [], none⟩
/-- SetTerm.plain(self) -/
def b_SetTerm_plain : B :=
  (.cons (.ret (.tup (.cons (.str "set") (.cons (.meth (.attr (.var 0) n_thing) n_plain .nil) (.cons (.attr (.var 0) n_called) (.cons (.meth (.attr (.var 0) n_other) n_plain .nil) .nil))))))
  .nil)
def d_SetTerm_plain : FD := ⟨1, 1, b_SetTerm_plain, [], none⟩
def fdsT : List (Nat × FD) := [(n__wall, d__wall), (n_plains, d_plains), (n_leaf_of, d_leaf_of), (n_thing_term_of, d_thing_term_of), (n_term_of, d_term_of), (n__law_cell_at, d__law_cell_at), (n__law_mixed, d__law_mixed), (n__law_name, d__law_name), (n__law_atom, d__law_atom), (n__law_taken, d__law_taken), (n__law_about, d__law_about), (n__law_joined, d__law_joined), (n__law_term, d__law_term), (n__law_parts, d__law_parts), (n__law_measured, d__law_measured), (n__law_whole, d__law_whole), (n_law, d_law), (n_Term___init__, d_Term___init__), (n_Term_meet, d_Term_meet), (n_Term_plain, d_Term_plain), (n_Term_parts, d_Term_parts), (n_Term_depth, d_Term_depth), (n_Term_size, d_Term_size), (n_NumberTerm___init__, d_NumberTerm___init__), (n_NumberTerm_meet, d_NumberTerm_meet), (n_NumberTerm_plain, d_NumberTerm_plain), (n_TruthTerm___init__, d_TruthTerm___init__), (n_TruthTerm_meet, d_TruthTerm_meet), (n_TruthTerm_plain, d_TruthTerm_plain), (n_NameTerm___init__, d_NameTerm___init__), (n_NameTerm_meet, d_NameTerm_meet), (n_NameTerm_plain, d_NameTerm_plain), (n_SelfTerm___init__, d_SelfTerm___init__), (n_SelfTerm_meet, d_SelfTerm_meet), (n_SelfTerm_plain, d_SelfTerm_plain), (n_NewTerm___init__, d_NewTerm___init__), (n_NewTerm_meet, d_NewTerm_meet), (n_NewTerm_plain, d_NewTerm_plain), (n_ElderTerm___init__, d_ElderTerm___init__), (n_ElderTerm_meet, d_ElderTerm_meet), (n_ElderTerm_plain, d_ElderTerm_plain), (n_FieldTerm___init__, d_FieldTerm___init__), (n_FieldTerm_meet, d_FieldTerm_meet), (n_FieldTerm_plain, d_FieldTerm_plain), (n_CallTerm___init__, d_CallTerm___init__), (n_CallTerm_meet, d_CallTerm_meet), (n_CallTerm_plain, d_CallTerm_plain), (n_NotTerm___init__, d_NotTerm___init__), (n_NotTerm_meet, d_NotTerm_meet), (n_NotTerm_plain, d_NotTerm_plain), (n_TwoTerm___init__, d_TwoTerm___init__), (n_TwoTerm_meet, d_TwoTerm_meet), (n_TwoTerm_plain, d_TwoTerm_plain), (n_IfTerm___init__, d_IfTerm___init__), (n_IfTerm_meet, d_IfTerm_meet), (n_IfTerm_plain, d_IfTerm_plain), (n_LetTerm___init__, d_LetTerm___init__), (n_LetTerm_meet, d_LetTerm_meet), (n_LetTerm_plain, d_LetTerm_plain), (n_SetTerm___init__, d_SetTerm___init__), (n_SetTerm_meet, d_SetTerm_meet), (n_SetTerm_plain, d_SetTerm_plain)]
def conT : List (Nat × PV) := []
def cdsT : List (Nat × CD) := [(n_Term, ⟨n_Term___init__, [(n_meet, n_Term_meet), (n_plain, n_Term_plain), (n_parts, n_Term_parts), (n_depth, n_Term_depth), (n_size, n_Term_size)], [n_inner, n_height, n_many], true, false⟩),
  (n_NumberTerm, ⟨n_NumberTerm___init__, [(n_meet, n_NumberTerm_meet), (n_plain, n_NumberTerm_plain), (n_parts, n_Term_parts), (n_depth, n_Term_depth), (n_size, n_Term_size)], [n_inner, n_height, n_many, n_number], false, false⟩),
  (n_TruthTerm, ⟨n_TruthTerm___init__, [(n_meet, n_TruthTerm_meet), (n_plain, n_TruthTerm_plain), (n_parts, n_Term_parts), (n_depth, n_Term_depth), (n_size, n_Term_size)], [n_inner, n_height, n_many, n_is_yes], false, false⟩),
  (n_NameTerm, ⟨n_NameTerm___init__, [(n_meet, n_NameTerm_meet), (n_plain, n_NameTerm_plain), (n_parts, n_Term_parts), (n_depth, n_Term_depth), (n_size, n_Term_size)], [n_inner, n_height, n_many, n_called], false, false⟩),
  (n_SelfTerm, ⟨n_SelfTerm___init__, [(n_meet, n_SelfTerm_meet), (n_plain, n_SelfTerm_plain), (n_parts, n_Term_parts), (n_depth, n_Term_depth), (n_size, n_Term_size)], [n_inner, n_height, n_many], false, false⟩),
  (n_NewTerm, ⟨n_NewTerm___init__, [(n_meet, n_NewTerm_meet), (n_plain, n_NewTerm_plain), (n_parts, n_Term_parts), (n_depth, n_Term_depth), (n_size, n_Term_size)], [n_inner, n_height, n_many, n_called], false, false⟩),
  (n_ElderTerm, ⟨n_ElderTerm___init__, [(n_meet, n_ElderTerm_meet), (n_plain, n_ElderTerm_plain), (n_parts, n_Term_parts), (n_depth, n_Term_depth), (n_size, n_Term_size)], [n_inner, n_height, n_many, n_called], false, false⟩),
  (n_FieldTerm, ⟨n_FieldTerm___init__, [(n_meet, n_FieldTerm_meet), (n_plain, n_FieldTerm_plain), (n_parts, n_Term_parts), (n_depth, n_Term_depth), (n_size, n_Term_size)], [n_inner, n_height, n_many, n_thing, n_called], false, false⟩),
  (n_CallTerm, ⟨n_CallTerm___init__, [(n_meet, n_CallTerm_meet), (n_plain, n_CallTerm_plain), (n_parts, n_Term_parts), (n_depth, n_Term_depth), (n_size, n_Term_size)], [n_inner, n_height, n_many, n_thing, n_called, n_given], false, false⟩),
  (n_NotTerm, ⟨n_NotTerm___init__, [(n_meet, n_NotTerm_meet), (n_plain, n_NotTerm_plain), (n_parts, n_Term_parts), (n_depth, n_Term_depth), (n_size, n_Term_size)], [n_inner, n_height, n_many, n_one], false, false⟩),
  (n_TwoTerm, ⟨n_TwoTerm___init__, [(n_meet, n_TwoTerm_meet), (n_plain, n_TwoTerm_plain), (n_parts, n_Term_parts), (n_depth, n_Term_depth), (n_size, n_Term_size)], [n_inner, n_height, n_many, n_sign, n_one, n_other], false, false⟩),
  (n_IfTerm, ⟨n_IfTerm___init__, [(n_meet, n_IfTerm_meet), (n_plain, n_IfTerm_plain), (n_parts, n_Term_parts), (n_depth, n_Term_depth), (n_size, n_Term_size)], [n_inner, n_height, n_many, n_one, n_other, n_third], false, false⟩),
  (n_LetTerm, ⟨n_LetTerm___init__, [(n_meet, n_LetTerm_meet), (n_plain, n_LetTerm_plain), (n_parts, n_Term_parts), (n_depth, n_Term_depth), (n_size, n_Term_size)], [n_inner, n_height, n_many, n_called, n_one, n_other], false, false⟩),
  (n_SetTerm, ⟨n_SetTerm___init__, [(n_meet, n_SetTerm_meet), (n_plain, n_SetTerm_plain), (n_parts, n_Term_parts), (n_depth, n_Term_depth), (n_size, n_Term_size)], [n_inner, n_height, n_many, n_thing, n_called, n_other], false, false⟩)]
def sgT : Sig := ⟨fun f => getF f fdsT, fun c => getC c cdsT, fun g => getN g conT⟩
end Py

set_option Elab.async false
set_option linter.all false
set_option maxRecDepth 100000
set_option maxHeartbeats 0
/-! The tables of law 15 (printed by gen.py). -/
namespace Py
open PySem PySem.Spec PyProof.Rows L2
def topT (i : Nat) : Stmt := PySem.Challenge.pw_elderhouse_k15_parts_and_tuples.main.body.getD i (.Pass ⟨0, 0, 0, 0⟩)
def gfT (f : Nat) : Bool := [n__wall, n_plains, n_leaf_of, n_thing_term_of, n_term_of, n__law_cell_at, n__law_mixed, n__law_name, n__law_atom, n__law_taken, n__law_about, n__law_joined, n__law_term, n__law_parts, n__law_measured, n__law_whole, n_law].contains f
def gs__wall : Stmt := topT 0
def ge__wall : He.DefD := ⟨("_wall", none), "_wall", "_wall", defArgs gs__wall, defBody gs__wall, defScope gs__wall, [], []⟩
def gs_plains : Stmt := topT 3
def ge_plains : He.DefD := ⟨("plains", none), "plains", "plains", defArgs gs_plains, defBody gs_plains, defScope gs_plains, [], []⟩
def gs_leaf_of : Stmt := topT 18
def ge_leaf_of : He.DefD := ⟨("leaf_of", none), "leaf_of", "leaf_of", defArgs gs_leaf_of, defBody gs_leaf_of, defScope gs_leaf_of, [], []⟩
def gs_thing_term_of : Stmt := topT 19
def ge_thing_term_of : He.DefD := ⟨("thing_term_of", none), "thing_term_of", "thing_term_of", defArgs gs_thing_term_of, defBody gs_thing_term_of, defScope gs_thing_term_of, [], []⟩
def gs_term_of : Stmt := topT 20
def ge_term_of : He.DefD := ⟨("term_of", none), "term_of", "term_of", defArgs gs_term_of, defBody gs_term_of, defScope gs_term_of, [], []⟩
def gs__law_cell_at : Stmt := topT 22
def ge__law_cell_at : He.DefD := ⟨("_law_cell_at", none), "_law_cell_at", "_law_cell_at", defArgs gs__law_cell_at, defBody gs__law_cell_at, defScope gs__law_cell_at, [], []⟩
def gs__law_mixed : Stmt := topT 23
def ge__law_mixed : He.DefD := ⟨("_law_mixed", none), "_law_mixed", "_law_mixed", defArgs gs__law_mixed, defBody gs__law_mixed, defScope gs__law_mixed, [], []⟩
def gs__law_name : Stmt := topT 24
def ge__law_name : He.DefD := ⟨("_law_name", none), "_law_name", "_law_name", defArgs gs__law_name, defBody gs__law_name, defScope gs__law_name, [], []⟩
def gs__law_atom : Stmt := topT 25
def ge__law_atom : He.DefD := ⟨("_law_atom", none), "_law_atom", "_law_atom", defArgs gs__law_atom, defBody gs__law_atom, defScope gs__law_atom, [], []⟩
def gs__law_taken : Stmt := topT 26
def ge__law_taken : He.DefD := ⟨("_law_taken", none), "_law_taken", "_law_taken", defArgs gs__law_taken, defBody gs__law_taken, defScope gs__law_taken, [], []⟩
def gs__law_about : Stmt := topT 27
def ge__law_about : He.DefD := ⟨("_law_about", none), "_law_about", "_law_about", defArgs gs__law_about, defBody gs__law_about, defScope gs__law_about, [], []⟩
def gs__law_joined : Stmt := topT 28
def ge__law_joined : He.DefD := ⟨("_law_joined", none), "_law_joined", "_law_joined", defArgs gs__law_joined, defBody gs__law_joined, defScope gs__law_joined, [], []⟩
def gs__law_term : Stmt := topT 29
def ge__law_term : He.DefD := ⟨("_law_term", none), "_law_term", "_law_term", defArgs gs__law_term, defBody gs__law_term, defScope gs__law_term, [], []⟩
def gs__law_parts : Stmt := topT 30
def ge__law_parts : He.DefD := ⟨("_law_parts", none), "_law_parts", "_law_parts", defArgs gs__law_parts, defBody gs__law_parts, defScope gs__law_parts, [], []⟩
def gs__law_measured : Stmt := topT 31
def ge__law_measured : He.DefD := ⟨("_law_measured", none), "_law_measured", "_law_measured", defArgs gs__law_measured, defBody gs__law_measured, defScope gs__law_measured, [], []⟩
def gs__law_whole : Stmt := topT 32
def ge__law_whole : He.DefD := ⟨("_law_whole", none), "_law_whole", "_law_whole", defArgs gs__law_whole, defBody gs__law_whole, defScope gs__law_whole, [], []⟩
def gs_law : Stmt := topT 33
def ge_law : He.DefD := ⟨("law", none), "law", "law", defArgs gs_law, defBody gs_law, defScope gs_law, [], []⟩
def gs_Term___init__ : Stmt := inClass (topT 2) 0
def ge_Term___init__ : He.DefD := ⟨("Term", some "__init__"), "__init__", "Term.__init__", defArgs gs_Term___init__, defBody gs_Term___init__, defScope gs_Term___init__, [], []⟩
def gs_Term_meet : Stmt := inClass (topT 2) 1
def ge_Term_meet : He.DefD := ⟨("Term", some "meet"), "meet", "Term.meet", defArgs gs_Term_meet, defBody gs_Term_meet, defScope gs_Term_meet, [], []⟩
def gs_Term_plain : Stmt := inClass (topT 2) 2
def ge_Term_plain : He.DefD := ⟨("Term", some "plain"), "plain", "Term.plain", defArgs gs_Term_plain, defBody gs_Term_plain, defScope gs_Term_plain, [], []⟩
def gs_Term_parts : Stmt := inClass (topT 2) 3
def ge_Term_parts : He.DefD := ⟨("Term", some "parts"), "parts", "Term.parts", defArgs gs_Term_parts, defBody gs_Term_parts, defScope gs_Term_parts, [], []⟩
def gs_Term_depth : Stmt := inClass (topT 2) 4
def ge_Term_depth : He.DefD := ⟨("Term", some "depth"), "depth", "Term.depth", defArgs gs_Term_depth, defBody gs_Term_depth, defScope gs_Term_depth, [], []⟩
def gs_Term_size : Stmt := inClass (topT 2) 5
def ge_Term_size : He.DefD := ⟨("Term", some "size"), "size", "Term.size", defArgs gs_Term_size, defBody gs_Term_size, defScope gs_Term_size, [], []⟩
def gs_NumberTerm___init__ : Stmt := inClass (topT 4) 0
def ge_NumberTerm___init__ : He.DefD := ⟨("NumberTerm", some "__init__"), "__init__", "NumberTerm.__init__", defArgs gs_NumberTerm___init__, defBody gs_NumberTerm___init__, defScope gs_NumberTerm___init__, [], []⟩
def gs_NumberTerm_meet : Stmt := inClass (topT 4) 1
def ge_NumberTerm_meet : He.DefD := ⟨("NumberTerm", some "meet"), "meet", "NumberTerm.meet", defArgs gs_NumberTerm_meet, defBody gs_NumberTerm_meet, defScope gs_NumberTerm_meet, [], []⟩
def gs_NumberTerm_plain : Stmt := inClass (topT 4) 2
def ge_NumberTerm_plain : He.DefD := ⟨("NumberTerm", some "plain"), "plain", "NumberTerm.plain", defArgs gs_NumberTerm_plain, defBody gs_NumberTerm_plain, defScope gs_NumberTerm_plain, [], []⟩
def gs_TruthTerm___init__ : Stmt := inClass (topT 5) 0
def ge_TruthTerm___init__ : He.DefD := ⟨("TruthTerm", some "__init__"), "__init__", "TruthTerm.__init__", defArgs gs_TruthTerm___init__, defBody gs_TruthTerm___init__, defScope gs_TruthTerm___init__, [], []⟩
def gs_TruthTerm_meet : Stmt := inClass (topT 5) 1
def ge_TruthTerm_meet : He.DefD := ⟨("TruthTerm", some "meet"), "meet", "TruthTerm.meet", defArgs gs_TruthTerm_meet, defBody gs_TruthTerm_meet, defScope gs_TruthTerm_meet, [], []⟩
def gs_TruthTerm_plain : Stmt := inClass (topT 5) 2
def ge_TruthTerm_plain : He.DefD := ⟨("TruthTerm", some "plain"), "plain", "TruthTerm.plain", defArgs gs_TruthTerm_plain, defBody gs_TruthTerm_plain, defScope gs_TruthTerm_plain, [], []⟩
def gs_NameTerm___init__ : Stmt := inClass (topT 6) 0
def ge_NameTerm___init__ : He.DefD := ⟨("NameTerm", some "__init__"), "__init__", "NameTerm.__init__", defArgs gs_NameTerm___init__, defBody gs_NameTerm___init__, defScope gs_NameTerm___init__, [], []⟩
def gs_NameTerm_meet : Stmt := inClass (topT 6) 1
def ge_NameTerm_meet : He.DefD := ⟨("NameTerm", some "meet"), "meet", "NameTerm.meet", defArgs gs_NameTerm_meet, defBody gs_NameTerm_meet, defScope gs_NameTerm_meet, [], []⟩
def gs_NameTerm_plain : Stmt := inClass (topT 6) 2
def ge_NameTerm_plain : He.DefD := ⟨("NameTerm", some "plain"), "plain", "NameTerm.plain", defArgs gs_NameTerm_plain, defBody gs_NameTerm_plain, defScope gs_NameTerm_plain, [], []⟩
def gs_SelfTerm___init__ : Stmt := inClass (topT 7) 0
def ge_SelfTerm___init__ : He.DefD := ⟨("SelfTerm", some "__init__"), "__init__", "SelfTerm.__init__", defArgs gs_SelfTerm___init__, defBody gs_SelfTerm___init__, defScope gs_SelfTerm___init__, [], []⟩
def gs_SelfTerm_meet : Stmt := inClass (topT 7) 1
def ge_SelfTerm_meet : He.DefD := ⟨("SelfTerm", some "meet"), "meet", "SelfTerm.meet", defArgs gs_SelfTerm_meet, defBody gs_SelfTerm_meet, defScope gs_SelfTerm_meet, [], []⟩
def gs_SelfTerm_plain : Stmt := inClass (topT 7) 2
def ge_SelfTerm_plain : He.DefD := ⟨("SelfTerm", some "plain"), "plain", "SelfTerm.plain", defArgs gs_SelfTerm_plain, defBody gs_SelfTerm_plain, defScope gs_SelfTerm_plain, [], []⟩
def gs_NewTerm___init__ : Stmt := inClass (topT 8) 0
def ge_NewTerm___init__ : He.DefD := ⟨("NewTerm", some "__init__"), "__init__", "NewTerm.__init__", defArgs gs_NewTerm___init__, defBody gs_NewTerm___init__, defScope gs_NewTerm___init__, [], []⟩
def gs_NewTerm_meet : Stmt := inClass (topT 8) 1
def ge_NewTerm_meet : He.DefD := ⟨("NewTerm", some "meet"), "meet", "NewTerm.meet", defArgs gs_NewTerm_meet, defBody gs_NewTerm_meet, defScope gs_NewTerm_meet, [], []⟩
def gs_NewTerm_plain : Stmt := inClass (topT 8) 2
def ge_NewTerm_plain : He.DefD := ⟨("NewTerm", some "plain"), "plain", "NewTerm.plain", defArgs gs_NewTerm_plain, defBody gs_NewTerm_plain, defScope gs_NewTerm_plain, [], []⟩
def gs_ElderTerm___init__ : Stmt := inClass (topT 9) 0
def ge_ElderTerm___init__ : He.DefD := ⟨("ElderTerm", some "__init__"), "__init__", "ElderTerm.__init__", defArgs gs_ElderTerm___init__, defBody gs_ElderTerm___init__, defScope gs_ElderTerm___init__, [], []⟩
def gs_ElderTerm_meet : Stmt := inClass (topT 9) 1
def ge_ElderTerm_meet : He.DefD := ⟨("ElderTerm", some "meet"), "meet", "ElderTerm.meet", defArgs gs_ElderTerm_meet, defBody gs_ElderTerm_meet, defScope gs_ElderTerm_meet, [], []⟩
def gs_ElderTerm_plain : Stmt := inClass (topT 9) 2
def ge_ElderTerm_plain : He.DefD := ⟨("ElderTerm", some "plain"), "plain", "ElderTerm.plain", defArgs gs_ElderTerm_plain, defBody gs_ElderTerm_plain, defScope gs_ElderTerm_plain, [], []⟩
def gs_FieldTerm___init__ : Stmt := inClass (topT 10) 0
def ge_FieldTerm___init__ : He.DefD := ⟨("FieldTerm", some "__init__"), "__init__", "FieldTerm.__init__", defArgs gs_FieldTerm___init__, defBody gs_FieldTerm___init__, defScope gs_FieldTerm___init__, [], []⟩
def gs_FieldTerm_meet : Stmt := inClass (topT 10) 1
def ge_FieldTerm_meet : He.DefD := ⟨("FieldTerm", some "meet"), "meet", "FieldTerm.meet", defArgs gs_FieldTerm_meet, defBody gs_FieldTerm_meet, defScope gs_FieldTerm_meet, [], []⟩
def gs_FieldTerm_plain : Stmt := inClass (topT 10) 2
def ge_FieldTerm_plain : He.DefD := ⟨("FieldTerm", some "plain"), "plain", "FieldTerm.plain", defArgs gs_FieldTerm_plain, defBody gs_FieldTerm_plain, defScope gs_FieldTerm_plain, [], []⟩
def gs_CallTerm___init__ : Stmt := inClass (topT 11) 0
def ge_CallTerm___init__ : He.DefD := ⟨("CallTerm", some "__init__"), "__init__", "CallTerm.__init__", defArgs gs_CallTerm___init__, defBody gs_CallTerm___init__, defScope gs_CallTerm___init__, [], []⟩
def gs_CallTerm_meet : Stmt := inClass (topT 11) 1
def ge_CallTerm_meet : He.DefD := ⟨("CallTerm", some "meet"), "meet", "CallTerm.meet", defArgs gs_CallTerm_meet, defBody gs_CallTerm_meet, defScope gs_CallTerm_meet, [], []⟩
def gs_CallTerm_plain : Stmt := inClass (topT 11) 2
def ge_CallTerm_plain : He.DefD := ⟨("CallTerm", some "plain"), "plain", "CallTerm.plain", defArgs gs_CallTerm_plain, defBody gs_CallTerm_plain, defScope gs_CallTerm_plain, [], []⟩
def gs_NotTerm___init__ : Stmt := inClass (topT 12) 0
def ge_NotTerm___init__ : He.DefD := ⟨("NotTerm", some "__init__"), "__init__", "NotTerm.__init__", defArgs gs_NotTerm___init__, defBody gs_NotTerm___init__, defScope gs_NotTerm___init__, [], []⟩
def gs_NotTerm_meet : Stmt := inClass (topT 12) 1
def ge_NotTerm_meet : He.DefD := ⟨("NotTerm", some "meet"), "meet", "NotTerm.meet", defArgs gs_NotTerm_meet, defBody gs_NotTerm_meet, defScope gs_NotTerm_meet, [], []⟩
def gs_NotTerm_plain : Stmt := inClass (topT 12) 2
def ge_NotTerm_plain : He.DefD := ⟨("NotTerm", some "plain"), "plain", "NotTerm.plain", defArgs gs_NotTerm_plain, defBody gs_NotTerm_plain, defScope gs_NotTerm_plain, [], []⟩
def gs_TwoTerm___init__ : Stmt := inClass (topT 13) 0
def ge_TwoTerm___init__ : He.DefD := ⟨("TwoTerm", some "__init__"), "__init__", "TwoTerm.__init__", defArgs gs_TwoTerm___init__, defBody gs_TwoTerm___init__, defScope gs_TwoTerm___init__, [], []⟩
def gs_TwoTerm_meet : Stmt := inClass (topT 13) 1
def ge_TwoTerm_meet : He.DefD := ⟨("TwoTerm", some "meet"), "meet", "TwoTerm.meet", defArgs gs_TwoTerm_meet, defBody gs_TwoTerm_meet, defScope gs_TwoTerm_meet, [], []⟩
def gs_TwoTerm_plain : Stmt := inClass (topT 13) 2
def ge_TwoTerm_plain : He.DefD := ⟨("TwoTerm", some "plain"), "plain", "TwoTerm.plain", defArgs gs_TwoTerm_plain, defBody gs_TwoTerm_plain, defScope gs_TwoTerm_plain, [], []⟩
def gs_IfTerm___init__ : Stmt := inClass (topT 14) 0
def ge_IfTerm___init__ : He.DefD := ⟨("IfTerm", some "__init__"), "__init__", "IfTerm.__init__", defArgs gs_IfTerm___init__, defBody gs_IfTerm___init__, defScope gs_IfTerm___init__, [], []⟩
def gs_IfTerm_meet : Stmt := inClass (topT 14) 1
def ge_IfTerm_meet : He.DefD := ⟨("IfTerm", some "meet"), "meet", "IfTerm.meet", defArgs gs_IfTerm_meet, defBody gs_IfTerm_meet, defScope gs_IfTerm_meet, [], []⟩
def gs_IfTerm_plain : Stmt := inClass (topT 14) 2
def ge_IfTerm_plain : He.DefD := ⟨("IfTerm", some "plain"), "plain", "IfTerm.plain", defArgs gs_IfTerm_plain, defBody gs_IfTerm_plain, defScope gs_IfTerm_plain, [], []⟩
def gs_LetTerm___init__ : Stmt := inClass (topT 15) 0
def ge_LetTerm___init__ : He.DefD := ⟨("LetTerm", some "__init__"), "__init__", "LetTerm.__init__", defArgs gs_LetTerm___init__, defBody gs_LetTerm___init__, defScope gs_LetTerm___init__, [], []⟩
def gs_LetTerm_meet : Stmt := inClass (topT 15) 1
def ge_LetTerm_meet : He.DefD := ⟨("LetTerm", some "meet"), "meet", "LetTerm.meet", defArgs gs_LetTerm_meet, defBody gs_LetTerm_meet, defScope gs_LetTerm_meet, [], []⟩
def gs_LetTerm_plain : Stmt := inClass (topT 15) 2
def ge_LetTerm_plain : He.DefD := ⟨("LetTerm", some "plain"), "plain", "LetTerm.plain", defArgs gs_LetTerm_plain, defBody gs_LetTerm_plain, defScope gs_LetTerm_plain, [], []⟩
def gs_SetTerm___init__ : Stmt := inClass (topT 16) 0
def ge_SetTerm___init__ : He.DefD := ⟨("SetTerm", some "__init__"), "__init__", "SetTerm.__init__", defArgs gs_SetTerm___init__, defBody gs_SetTerm___init__, defScope gs_SetTerm___init__, [], []⟩
def gs_SetTerm_meet : Stmt := inClass (topT 16) 1
def ge_SetTerm_meet : He.DefD := ⟨("SetTerm", some "meet"), "meet", "SetTerm.meet", defArgs gs_SetTerm_meet, defBody gs_SetTerm_meet, defScope gs_SetTerm_meet, [], []⟩
def gs_SetTerm_plain : Stmt := inClass (topT 16) 2
def ge_SetTerm_plain : He.DefD := ⟨("SetTerm", some "plain"), "plain", "SetTerm.plain", defArgs gs_SetTerm_plain, defBody gs_SetTerm_plain, defScope gs_SetTerm_plain, [], []⟩
def fnT : List He.DefD := [ge__wall, ge_plains, ge_leaf_of, ge_thing_term_of, ge_term_of, ge__law_cell_at, ge__law_mixed, ge__law_name, ge__law_atom, ge__law_taken, ge__law_about, ge__law_joined, ge__law_term, ge__law_parts, ge__law_measured, ge__law_whole, ge_law, ge_Term___init__, ge_Term_meet, ge_Term_plain, ge_Term_parts, ge_Term_depth, ge_Term_size, ge_NumberTerm___init__, ge_NumberTerm_meet, ge_NumberTerm_plain, ge_TruthTerm___init__, ge_TruthTerm_meet, ge_TruthTerm_plain, ge_NameTerm___init__, ge_NameTerm_meet, ge_NameTerm_plain, ge_SelfTerm___init__, ge_SelfTerm_meet, ge_SelfTerm_plain, ge_NewTerm___init__, ge_NewTerm_meet, ge_NewTerm_plain, ge_ElderTerm___init__, ge_ElderTerm_meet, ge_ElderTerm_plain, ge_FieldTerm___init__, ge_FieldTerm_meet, ge_FieldTerm_plain, ge_CallTerm___init__, ge_CallTerm_meet, ge_CallTerm_plain, ge_NotTerm___init__, ge_NotTerm_meet, ge_NotTerm_plain, ge_TwoTerm___init__, ge_TwoTerm_meet, ge_TwoTerm_plain, ge_IfTerm___init__, ge_IfTerm_meet, ge_IfTerm_plain, ge_LetTerm___init__, ge_LetTerm_meet, ge_LetTerm_plain, ge_SetTerm___init__, ge_SetTerm_meet, ge_SetTerm_plain]
def mAt (f : Nat) : Str × Option Str := match (f : Nat) with
  | 31 => ("Term", some "__init__")
  | 32 => ("Term", some "meet")
  | 33 => ("Term", some "plain")
  | 34 => ("Term", some "parts")
  | 35 => ("Term", some "depth")
  | 36 => ("Term", some "size")
  | 37 => ("NumberTerm", some "__init__")
  | 38 => ("NumberTerm", some "meet")
  | 39 => ("NumberTerm", some "plain")
  | 40 => ("TruthTerm", some "__init__")
  | 41 => ("TruthTerm", some "meet")
  | 42 => ("TruthTerm", some "plain")
  | 43 => ("NameTerm", some "__init__")
  | 44 => ("NameTerm", some "meet")
  | 45 => ("NameTerm", some "plain")
  | 46 => ("SelfTerm", some "__init__")
  | 47 => ("SelfTerm", some "meet")
  | 48 => ("SelfTerm", some "plain")
  | 49 => ("NewTerm", some "__init__")
  | 50 => ("NewTerm", some "meet")
  | 51 => ("NewTerm", some "plain")
  | 52 => ("ElderTerm", some "__init__")
  | 53 => ("ElderTerm", some "meet")
  | 54 => ("ElderTerm", some "plain")
  | 55 => ("FieldTerm", some "__init__")
  | 56 => ("FieldTerm", some "meet")
  | 57 => ("FieldTerm", some "plain")
  | 58 => ("CallTerm", some "__init__")
  | 59 => ("CallTerm", some "meet")
  | 60 => ("CallTerm", some "plain")
  | 61 => ("NotTerm", some "__init__")
  | 62 => ("NotTerm", some "meet")
  | 63 => ("NotTerm", some "plain")
  | 64 => ("TwoTerm", some "__init__")
  | 65 => ("TwoTerm", some "meet")
  | 66 => ("TwoTerm", some "plain")
  | 67 => ("IfTerm", some "__init__")
  | 68 => ("IfTerm", some "meet")
  | 69 => ("IfTerm", some "plain")
  | 70 => ("LetTerm", some "__init__")
  | 71 => ("LetTerm", some "meet")
  | 72 => ("LetTerm", some "plain")
  | 73 => ("SetTerm", some "__init__")
  | 74 => ("SetTerm", some "meet")
  | 75 => ("SetTerm", some "plain")
  | _ => ("", none)
def atT (f : Nat) : Str × Option Str := if gfT f = true then (nmT f, none) else mAt f
def gfl : List Nat := [n__wall, n_plains, n_leaf_of, n_thing_term_of, n_term_of, n__law_cell_at, n__law_mixed, n__law_name, n__law_atom, n__law_taken, n__law_about, n__law_joined, n__law_term, n__law_parts, n__law_measured, n__law_whole, n_law]
def exT (K : PySem.W.Frag) : Bool := chkC nmT conT K && cdsT.all fun p => chkD nmT atT p.1 p.2 K
def faT : List He.Fa := bltNames.map He.Fa.free ++ (gfl.map fun f => He.Fa.glo (nmT f))
end Py

set_option Elab.async false
set_option linter.all false
set_option maxRecDepth 100000
set_option maxHeartbeats 0
/-! The head of law 15 (printed by gen.py). -/
namespace Py
open PySem PySem.Spec PySem.W PySem.Calls PyProof.Rows HandSHeadRun L2
abbrev R : PySem.W.OpenRow := PySem.W.OpenLaw.row PySem.Challenge.rw_elderhouse_k15_parts_and_tuples
abbrev hk : PySem.W.Hook := hookP 6 faT fnT exT
def ob (s : PySem.W.SharedT) : AlP := obsP 6 faT fnT exT (HandSHeadRun.getT s)
theorem ob_eq (s : PySem.W.SharedT) : ob s = hk.obs s.abs := obsP_eq (HandSHeadRun.getT_eq s)
def tnames0 : List Str := ["_wall", "Term", "plains", "NumberTerm", "TruthTerm", "NameTerm", "SelfTerm", "NewTerm", "ElderTerm", "FieldTerm", "CallTerm", "NotTerm", "TwoTerm", "IfTerm", "LetTerm", "SetTerm", "leaf_of", "thing_term_of", "term_of", "_law_cell_at", "_law_mixed", "_law_name", "_law_atom", "_law_taken", "_law_about", "_law_joined", "_law_term", "_law_parts", "_law_measured", "_law_whole"]
def topNames : List Str := tnames0
theorem join4 {α β γ δ ε : Type} {o : Option α} {f : α → β} {g : α → γ} {k : α → δ × ε} {a : β} {b : γ} {c : δ × ε} (p : o.map f = some a) (q : o.map g = some b) (r : (o.map fun s => (k s).1) = some c.1) (t : (o.map fun s => (k s).2) = some c.2) : (o.map fun s => (f s, g s, k s)) = some (a, b, c) := by
  cases o with
  | none => cases p
  | some s =>
    cases Option.some.inj p
    cases Option.some.inj q
    have r := Option.some.inj r
    have t := Option.some.inj t
    exact congrArg (fun z => some (f s, g s, z)) (Prod.ext r t)
/-- the run's equation, its first part -/
def RunE1 (r : PySem.W.OpenRow) (M : Nat) (w : World) : Prop := ∀ os : OsState, ((endF (stepQ (denQ tabQ) r.prog w) M r.prog w os).map fun s => looksF r.prog (boot_heap w.params) s.abs) = some true
/-- its middle part -/
def RunE2 (r : PySem.W.OpenRow) (q : Program) (M : Nat) (loose : List Str) (w : World) : Prop := ∀ os : OsState, ((endF (stepQ (denQ tabQ) r.prog w) M r.prog w os).map fun s => seenQ q loose (importedModules r.prog.main.body) (fun s => xlAt q [] s && recOk r.toRowW.records s) s.abs) = some (openGood q loose)
/-- its last parts -/
def RunE3 (r : PySem.W.OpenRow) (ob : PySem.W.SharedT → AlP) (M : Nat) (w : World) : Prop := ∀ os : OsState, ((endF (stepQ (denQ tabQ) r.prog w) M r.prog w os).map fun s => (ob s).1) = some true
def RunE4 (r : PySem.W.OpenRow) (ob : PySem.W.SharedT → AlP) (fn : List He.DefD) (M : Nat) (w : World) : Prop := ∀ os : OsState, ((endF (stepQ (denQ tabQ) r.prog w) M r.prog w os).map fun s => (ob s).2) = some (He.valD fn)
theorem run_of {r : PySem.W.OpenRow} {q : Program} {ob : PySem.W.SharedT → AlP} {n : Nat} {fa : List He.Fa} {fn : List He.DefD} {ex : PySem.W.Frag → Bool} {M : Nat} {loose : List Str} {w : World} (a : RunE1 r M w) (b : RunE2 r q M loose w) (c : RunE3 r ob M w) (d : RunE4 r ob fn M w) : HandSHeadRun.RunEq r q (hookP n fa fn ex) ob M loose w := fun os => join4 (c := (true, He.valD fn)) (a os) (b os) (c os) (d os)
def RunE5 (r : PySem.W.OpenRow) (ob : PySem.W.SharedT → AlP) (M : Nat) (w : World) : Prop := ∀ os : OsState, ((endF (stepQ (denQ tabQ) r.prog w) M r.prog w os).map fun s => (ob s).2.1) = some true
def RunE6 (r : PySem.W.OpenRow) (ob : PySem.W.SharedT → AlP) (fn : List He.DefD) (M : Nat) (w : World) : Prop := ∀ os : OsState, ((endF (stepQ (denQ tabQ) r.prog w) M r.prog w os).map fun s => (ob s).2.2) = some (fn.map He.DefD.val)
theorem join2 {α β γ : Type} {o : Option α} {f : α → β × γ} {b : β} {c : γ} (p : (o.map fun s => (f s).1) = some b) (q : (o.map fun s => (f s).2) = some c) : o.map f = some (b, c) := by
  cases o with
  | none => cases p
  | some s => exact congrArg some (Prod.ext (Option.some.inj p) (Option.some.inj q))
theorem run6 (w : World) : RunE6 R ob fnT 100000 w := by
  intro os
  kernel_rfl
def fnA : List He.DefD := fnT.take 80
def fnB : List He.DefD := fnT.drop 80
def obA (s : PySem.W.SharedT) : AlP := obsP 6 faT fnA exT (HandSHeadRun.getT s)
def obB (s : PySem.W.SharedT) : AlP := obsP 6 [] fnB exT (HandSHeadRun.getT s)
theorem ob_cut (s : PySem.W.SharedT) : (ob s).2.1 = ((obA s).2.1 && (obB s).2.1) := by
  have e : fnT = fnA ++ fnB := (List.take_append_drop 80 fnT).symm
  unfold ob
  rw [e]
  exact obs_cut
theorem join_and {α : Type} {o : Option α} {f g h : α → Bool} (e : ∀ s, h s = (f s && g s)) (p : o.map f = some true) (q : o.map g = some true) : o.map h = some true := by
  cases o with
  | none => cases p
  | some s => exact congrArg some ((e s).trans (by rw [Option.some.inj p, Option.some.inj q]; rfl))
theorem run5a (w : World) : RunE5 R obA 100000 w := by
  intro os
  kernel_rfl
theorem run5b (w : World) : RunE5 R obB 100000 w := by
  intro os
  kernel_rfl
theorem run5 (w : World) : RunE5 R ob 100000 w := fun os => join_and ob_cut (run5a w os) (run5b w os)
theorem run4 (w : World) : RunE4 R ob fnT 100000 w := fun os => join2 (b := true) (c := fnT.map He.DefD.val) (run5 w os) (run6 w os)
theorem run3 (w : World) : RunE3 R ob 100000 w := by
  intro os
  kernel_rfl
theorem run1 (w : World) : RunE1 R 100000 w := by
  intro os
  kernel_rfl
theorem run2 (w : World) : RunE2 R (PySem.W.view R.prog [33]) 100000 topNames w := by
  intro os
  kernel_rfl
theorem run (w : World) : HandSHeadRun.RunEq R (PySem.W.view R.prog [33]) hk ob 100000 topNames w := run_of (run1 w) (run2 w) (run3 w) (run4 w)
end Py

set_option Elab.async false
set_option linter.all false
set_option maxRecDepth 100000
set_option maxHeartbeats 4000000
/-! PyGuard: defs, calls and the law's call where no guard is under way. -/
namespace Py
open PySem PySem.Spec PyProof.Rows L2
/-- a def's promise, wherever nothing is being shown -/
structure FnG (P : Program) (w : World) (K : PySem.W.Frag) (mg : Str → Option Value) (base : Heap) (C : CXT) (k : Nat) (f : Addr) (fd : FuncData) (ps : List Str) (sp : Sp) : Prop where
  many : ∀ {vs H Q E}, sp vs H Q E → vs.length = ps.length
  does : ∀ {A : Around} {outer : List Env} {s : Shared} {H : Hp} {args : Args} {us : List Value} {vs : List V} {Q : VK} {E : XK}, A.guards = some [] → Room k A → Env0 P w K mg base A outer s H →
    BindsTo s fd args (ps.zip us) → Vals vs us → sp vs H Q E → codeAny (model P w) A (.call (.ref f) args) (CR C outer P w H s Q E) s
section
variable {P : Program} {w : World} {K : PySem.W.Frag} {mg : Str → Option Value} {base : Heap} {C : CXT} {k : Nat} {f : Addr} {fd : FuncData} {sp : Sp}
theorem fnG_of {x qual : Str} {params : Arguments} {body : List Stmt} {scope : Scope} {dvs : List V} {kws : List (Str × V)} {N ps : List Str} (F : FunD K x qual params body scope dvs kws f fd) (S : FnScope N ps scope) (many : ∀ {vs H Q E}, sp vs H Q E → vs.length = ps.length)
    (B : ∀ (cdv : Value) (A : Around) (outer : List Env) (s : Shared) (H : Hp) (vs : List V) (Q : VK) (E : XK), A.guards = some [] → Room k (A.deeper (envOfC qual scope s.heap.objs.size f cdv)) → sp vs H Q E →
      ∃ t, PSs (cxOf C P w K mg base N qual scope f cdv A outer s H E) body t ∧ t { nx := fun _ H' => Q .non H', rt := Q } (L2.start N vs) H) : FnG P w K mg base C (k + 1) f fd ps sp := by
  obtain ⟨_, _, _, _, _, _, _, cdv, _, _, rfl, at_, code, _, _⟩ := F.ex
  refine ⟨many, fun {A outer s H args us vs Q E} hg room e0 bound vals h => ?_⟩
  have old : ∀ b o, base.get? b = some o → s.heap.get? b = some o := fun b o e => (e0.bs b o e).1
  have inn := e0.mod.kin.keeps old
  have deep := e0.mod.nolimit.keeps old
  have kinds : ∀ p ∈ ps.zip us, scope.names.lookup p.1 = some .local ∨ (scope.names.lookup p.1 = some .cell ∧ ((cellsFrom (s.heap.objs.size + 1) scope.names []).lookup p.1).isSome = true) := by
    rintro ⟨n, v⟩ hp
    exact (S.par n (List.of_mem_zip hp).1).imp id fun q => ⟨q, PySem.W.cellsFrom_some _ _ _ (.inl q)⟩
  refine codeAny_call_function room.depth (inn _ _ at_) rfl S.co S.gen rfl (PySem.W.codeRec_of inn code) (bound _ _ _ _ (wpAny_newFunctionEnv_cells S.kind kinds ?_))
  intro env he s1 x
  subst he
  refine ⟨deep.keeps x.toInCall.keep, codeAny_func ?_⟩
  obtain ⟨t, ht, q⟩ := B cdv A outer s H vs Q E hg (room.deeper _) h
  refine wpAny_mono (ht.run [] s1 _ H _ (inv_start S room.hd e0 (many h) vals x) q) ?_ fun _ _ z => z
  rintro (_ | _ | _ | u) s' z
  · obtain ⟨_, H', J, q⟩ := z
    exact ⟨.non, H', J.os, J.bare, J.base, J.hok, rfl, q⟩
  · obtain ⟨_, _, _, q⟩ := z
    exact q.elim
  · obtain ⟨_, _, _, q⟩ := z
    exact q.elim
  · obtain ⟨v, _, H', J, r, q⟩ := z
    exact ⟨v, H', J.os, J.bare, J.base, J.hok, r, q⟩
end
section
variable {X : Cx} {C : CXT} {k : Nat} {f : Addr} {fd : FuncData} {ps : List Str} {sp : Sp} {dvs : List V} {ds : List Value} {E : L2.St → XK} {pins : List (Addr × Obj)} {σ : L2.St} {H : Hp} {s : Shared} {Q : VK} {us : List Value} {vs : List V}
theorem run_fnG (F : FnG X.prog X.w X.K X.mg X.base C k f fd ps sp) (hg : X.A.guards = some []) (room : Room k X.A) (hb : Binds X.K fd ps ds) (hd : Vals dvs ds) (air : PassesAt C X σ (E σ)) (I : Inv X pins σ H s) (r : Vals vs us) (h : sp (vs ++ dvs) H Q (E σ)) :
    wpAny (model X.prog X.w) X.A (call (.ref f) us) (EP X pins σ Q) X.xe s := by
  have both := r.append hd
  have go := F.does (outer := X.stack) (args := ⟨us, []⟩) hg room I.env0 (hb s us I.kIn (both.length.symm.trans (F.many h))) both h
  refine wpAny_call (codeAny_mono go ?_)
  rintro (e | fl) s' z
  · exact air pins H s e s' I z
  · cases fl <;> first | exact I.after z | exact z.elim
/-- an instance made -/
theorem run_makeG {Ca : Addr} {E : XK} (M : Mk X.K Ca f) (F : FnG X.prog X.w X.K X.mg X.base C k f fd ps sp) (hg : X.A.guards = some []) (room : Room (k + 1) X.A) (hb : Binds X.K fd ps ds) (hd : Vals dvs ds) (air : PassesAt C X σ E) (I : Inv X pins σ H s) (r : Vals vs us)
    (h : ∀ x dx, H x = none → H dx = none → dx ≠ x → sp (.ref x :: (vs ++ dvs)) (upd (upd H dx (.own x)) x (.ins Ca dx [])) (fun v H2 => v = .non ∧ Q (.ref x) H2) E) : wpAny (model X.prog X.w) X.A (call (.ref Ca) us) (EP X pins σ Q) X.xe s := by
  have q := h (s.heap.objs.size + 1) s.heap.objs.size (I.hok.fresh (Nat.le_succ _)) (I.hok.fresh (Nat.le_refl _)) (Nat.ne_of_lt (Nat.lt_succ_self _))
  have J := Inv.made (C := Ca) I
  have both : Vals (V.ref (s.heap.objs.size + 1) :: (vs ++ dvs)) (Value.ref (s.heap.objs.size + 1) :: (us ++ ds)) := .cons rfl (r.append hd)
  have gs : (X.A.under (.builtin "type.__call__" ⟨.ref Ca :: us, []⟩)).guards = some [] := by
    show pushGuards (Code.guards (.builtin "type.__call__" ⟨.ref Ca :: us, []⟩)) X.A.guards = some []
    rw [hg]; rfl
  have go := F.does (outer := X.stack) (args := ⟨Value.ref (s.heap.objs.size + 1) :: us, []⟩) gs (room.make Ca us []) (J.env0.make Ca us []) (hb _ (Value.ref (s.heap.objs.size + 1) :: us) J.kIn (both.length.symm.trans (F.many q))) both q
  refine wpAny_call (make_map (f := f) I.kIn M.makes M.init (beq_iff_eq.mp M.fn) (codeAny_mono go ?_))
  rintro (e | fl) s' z
  · exact air pins _ _ e s' J z
  · cases fl with
    | ret u =>
      obtain ⟨v, H', I3, rv, ev, q3⟩ := J.after z
      subst ev
      exact ⟨rv, V.ref (s.heap.objs.size + 1), H', I3, rfl, q3⟩
    | _ => exact z.elim
theorem run_makeNG {Ca : Addr} {E : XK} {n : Nat} {ks : List Str} {g : List Value → List Value → List Value} {gV : List V → List V → List V} {ws : List Value} {zs : List V} (M : Mk X.K Ca f) (F : FnG X.prog X.w X.K X.mg X.base C k f fd ps sp) (hg : X.A.guards = some []) (room : Room (k + 1) X.A) (hb : KBn X.K fd ps (n + 1) ks g gV) (air : PassesAt C X σ E) (I : Inv X pins σ H s) (r : Vals vs us) (rz : Vals zs ws) (l1 : vs.length = n) (l2 : zs.length = ks.length)
    (h : ∀ x dx, H x = none → H dx = none → dx ≠ x → sp (gV (.ref x :: vs) zs) (upd (upd H dx (.own x)) x (.ins Ca dx [])) (fun v H2 => v = .non ∧ Q (.ref x) H2) E) : wpAny (model X.prog X.w) X.A (call (.ref Ca) us (ks.zip ws)) (EP X pins σ Q) X.xe s := by
  have q := h (s.heap.objs.size + 1) s.heap.objs.size (I.hok.fresh (Nat.le_succ _)) (I.hok.fresh (Nat.le_refl _)) (Nat.ne_of_lt (Nat.lt_succ_self _))
  have J := Inv.made (C := Ca) I
  have r1 : Vals (V.ref (s.heap.objs.size + 1) :: vs) (Value.ref (s.heap.objs.size + 1) :: us) := .cons rfl r
  have both := hb.rel r1 rz
  have e1 : (Value.ref (s.heap.objs.size + 1) :: us).length = n + 1 := r1.length.symm.trans (congrArg Nat.succ l1)
  have e2 : ws.length = ks.length := rz.length.symm.trans l2
  have gs : (X.A.under (.builtin "type.__call__" ⟨.ref Ca :: us, ks.zip ws⟩)).guards = some [] := by
    show pushGuards (Code.guards (.builtin "type.__call__" ⟨.ref Ca :: us, ks.zip ws⟩)) X.A.guards = some []
    rw [hg]; rfl
  have go := F.does (outer := X.stack) (args := ⟨Value.ref (s.heap.objs.size + 1) :: us, ks.zip ws⟩) gs (room.make Ca us (ks.zip ws)) (J.env0.make Ca us (ks.zip ws)) (hb.to _ (Value.ref (s.heap.objs.size + 1) :: us) ws J.kIn e1 e2) both q
  refine wpAny_call (make_map (f := f) I.kIn M.makes M.init (beq_iff_eq.mp M.fn) (codeAny_mono go ?_))
  rintro (e | fl) s' z
  · exact air pins _ _ e s' J z
  · cases fl with
    | ret u =>
      obtain ⟨v, H', I3, rv, ev, q3⟩ := J.after z
      subst ev
      exact ⟨rv, V.ref (s.heap.objs.size + 1), H', I3, rfl, q3⟩
    | _ => exact z.elim
end
/-- the law's call -/
theorem law_callG {P : Program} {w : World} {K : PySem.W.Frag} {mg mb : Str → Option Value} {C : CXT} {k : Nat} {fa a : Addr} {fd : FuncData} {x : Str} {sp : Sp} {s₁ : Shared} {vs : List Value} {ns : List Int}
    (KX : K.In s₁.heap) (hns : s₁.heap.Ns mainGlobals mg) (hb : s₁.heap.Ns builtinsNs mb) (hbb : ∀ x : Str, x ≠ "__name__" → mb x = bootBuiltins x) (hlim : s₁.heap.NoLimit) (hg : s₁.gens = #[])
    (ha : s₁.heap.get? a = some { cls := .type "list", data := .seq vs.toArray }) (hi : IntsAre vs ns) (hl : ns.length ≤ sizeLine) (room : Room k callerA)
    (F : ∀ base : Heap, K.In base → base.Ns mainGlobals mg → FnG P w K mg base C k fa fd [x] sp) (hbind : ∀ (s : Shared) (u : Value), BindsTo s fd ⟨[u], []⟩ [(x, u)])
    (hsp : ∀ H : Hp, Only H → SqL K H a (ns.map V.int) → sp [.ref a] H (fun v _ => v = .bl true) fun _ _ _ => False) (none_ : ∀ H e s', C [] H s₁ (fun _ _ _ => False) e s' → False) :
    codeAny (model P w) callerA (.call (.ref fa) ⟨[.ref a], []⟩) (fun r s' => r = .ok (.ret (.bool true)) ∧ OldK s₁.heap s'.heap ∧ s'.os = s₁.os ∧ AllBare s'.gens) s₁ := by
  have rv := vals_ints hi
  have hsz : (ns.map V.int).length ≤ sizeLine := by rw [List.length_map]; exact hl
  have hvs : vs.length = ns.length := hi.length
  obtain ⟨H, hH⟩ : ∃ H : Hp, H = fun b => if b = a ∧ K.lookup a = none then some (.frz { cls := .type "list", data := .seq vs.toArray } (.lst (ns.map V.int))) else none := ⟨_, rfl⟩
  have at_ : ∀ {b u}, H b = some u → (b = a ∧ K.lookup a = none) ∧ u = .frz { cls := .type "list", data := .seq vs.toArray } (.lst (ns.map V.int)) := fun {b u} z => by
    rw [hH] at z
    dsimp only at z
    split at z
    · rename_i h; cases z; exact ⟨h, rfl⟩
    · cases z
  have free : ∀ {b o}, s₁.heap.get? b = some o → (∀ n, o.data ≠ .seq vs.toArray n) → H b = none := fun {b o} e n => by
    cases q : H b with
    | none => rfl
    | some u =>
      obtain ⟨⟨rfl, _⟩, _⟩ := at_ q
      rw [ha] at e; cases e
      exact absurd rfl (n _)
  have only : Only H := fun b => by
    cases q : H b with
    | none => exact .inl rfl
    | some u => exact .inr ⟨_, _, congrArg some (at_ q).2⟩
  have list : SqL K H a (ns.map V.int) := by
    cases q : K.lookup a with
    | none => exact .inl (.inr ⟨_, by rw [hH]; exact if_pos ⟨rfl, q⟩⟩)
    | some o =>
      have e := KX a o q
      rw [ha] at e; cases e
      exact .inr ⟨_, vs.toArray, _, q, rfl, rfl, rfl, by rw [List.size_toArray, hvs]; exact hl, by simpa using rv⟩
  have okH : HOk P w H s₁.heap := fun b u z => by
    obtain ⟨⟨rfl, _⟩, rfl⟩ := at_ z
    exact ⟨ha, hsz, vs, _, rv, ha⟩
  have kept : ∀ {b m}, s₁.heap.Ns b m → (hidT s₁.heap H).Ns b m := fun {b m} ⟨o, es, ep, e, d, r⟩ => ⟨o, es, ep, hidT_get e (free e fun n z => by rw [d] at z; cases z), d, r⟩
  have inn : K.In (hidT s₁.heap H) := fun b o e => hidT_get (KX b o e) (by
    cases q : H b with
    | none => rfl
    | some u => obtain ⟨⟨rfl, n⟩, _⟩ := at_ q; rw [n] at e; cases e)
  have md : Mod K mg (hidT s₁.heap H) := ⟨inn, kept hns, ⟨mb, kept hb, hbb⟩, let ⟨mc, h1, h2⟩ := hlim; ⟨mc, kept h1, h2⟩⟩
  have e0 : Env0 P w K mg (hidT s₁.heap H) callerA [] s₁ H := ⟨rfl, md, fun b o e => of_hidT e, Nat.le_of_eq (hidT_size _ _), trivial, (fun b z => nomatch (show b ∈ ([] : List Addr) from z)), okH, .of_eq hg⟩
  refine codeAny_mono ((F _ inn (kept hns)).does (us := [.ref a]) (vs := [.ref a]) rfl room e0 (hbind s₁ (.ref a)) (.cons rfl .nil) (hsp H only list)) ?_
  rintro (e | fl) s' z
  · exact (none_ H e s' z).elim
  · cases fl with
    | ret u =>
      obtain ⟨v, H', os, bare, un, okH', r, q⟩ := z
      cases (show v = .bl true from q)
      cases (show u = Value.bool true from r)
      refine ⟨rfl, OldK.of_keep fun b o e => ?_, os, bare⟩
      cases q : H b with
      | none => exact un.keep b o e q (fun z => nomatch (show b ∈ ([] : List Addr) from z)) (fun z => nomatch (show b ∈ ([] : List Addr) from z))
      | some u =>
        obtain ⟨_, rfl⟩ := at_ q
        obtain ⟨e1, _⟩ := okH b _ q
        obtain ⟨e2, _⟩ := okH' b _ (un.frzs b _ _ q)
        rw [e] at e1; cases e1
        exact e2
    | _ => exact z.elim
end Py

set_option Elab.async false
set_option linter.all false
set_option maxRecDepth 100000
set_option maxHeartbeats 4000000
/-! PySound: the reading of PyDen is sound for the hand layer. -/
namespace Py
open PySem PySem.Spec PyProof.Rows L2

/-! ### how abstract values and heaps stand for the layer's -/
mutual
def RV (K : PySem.W.Frag) (H : Hp) (m : List Addr) : PV → V → Prop
  | .non, v => v = .non
  | .bl b, v => v = .bl b
  | .int i, v => v = .int i
  | .str s, v => v = .str s
  | .ref a, v => ∃ p, m[a]? = some p ∧ v = .ref p
  | .tup xs, v => ∃ p vs, v = .ref p ∧ SqT K H p vs ∧ RVs K H m xs vs
def RVs (K : PySem.W.Frag) (H : Hp) (m : List Addr) : List PV → List V → Prop
  | [], vs => vs = []
  | x :: xs, vs => ∃ v r, vs = v :: r ∧ RV K H m x v ∧ RVs K H m xs r
end
/-- a key -/
def keyV : PV → Option Key
  | .int i => some (.inl i)
  | .str s => some (.inr s)
  | _ => none
def RKs (K : PySem.W.Frag) (H : Hp) (m : List Addr) : List (PV × PV) → List (Key × V) → Prop
  | [], vs => vs = []
  | (x, y) :: xs, vs => ∃ k v r, vs = (k, v) :: r ∧ keyV x = some k ∧ RV K H m y v ∧ RKs K H m xs r
def optR (K : PySem.W.Frag) (H : Hp) (m : List Addr) : Option PV → Option V → Prop
  | some x, some v => RV K H m x v
  | none, none => True
  | _, _ => False
/-- a list of the written part -/
def KL (K : PySem.W.Frag) (a : Addr) (xs : List V) : Prop := ∃ (o : Obj) (its : Array Value) (n : Nat), K.lookup a = some o ∧ o.cls = .type "list" ∧ o.dict = none ∧ o.data = .seq its n ∧ its.size ≤ sizeLine ∧ Vals xs its.toList
/-- what is known of the module: names, class addresses -/
structure Me where
  nm : Nat → Str
  gf : Nat → Bool
  G : Sig
structure Mo extends Me where
  K : PySem.W.Frag
  ca : Nat → Addr
  fa : Nat → Addr
def RO (M : Mo) (H : Hp) (m : List Addr) : PO → Addr → Prop
  | .lst xs, p => ∃ vs, H p = some (.lst vs) ∧ RVs M.K H m xs vs
  | .frl xs, p => ∃ vs, ((∃ o, H p = some (.frz o (.lst vs))) ∨ KL M.K p vs) ∧ RVs M.K H m xs vs
  | .dic kvs, p => ∃ ks, H p = some (.dK ks) ∧ RKs M.K H m kvs ks
  | .frd kvs, p => ∃ ks, (∃ o, H p = some (.frz o (.dK ks))) ∧ RKs M.K H m kvs ks
  | .tpl xs, p => ∃ vs, (∃ o, H p = some (.frz o (.tup vs)) ∧ o.dict = none) ∧ RVs M.K H m xs vs
  | .ins c fs, p => ∃ dx gs cd, H p = some (.ins (M.ca c) dx gs) ∧ M.G.cls c = some cd ∧ (∀ f, cd.fields.contains f = true → optR M.K H m (getN f fs) (gs.lookup (M.nm f))) ∧
      gs.length = fs.length ∧ ∀ s ∈ gs.map (·.1), s ∈ cd.fields.map M.nm
def isFrl : PO → Bool
  | .frl _ => true
  | _ => false
/-- read alone -/
def isRo : PO → Bool
  | .frl _ => true
  | .frd _ => true
  | .tpl _ => true
  | _ => false
theorem isRo_frl {o : PO} (h : isRo o = false) : isFrl o = false := by cases o <;> first | rfl | cases h
structure RH (M : Mo) (H : Hp) (m : List Addr) (h : PH) : Prop where
  len : m.length = h.length
  obj : ∀ (a : Nat) (o : PO) (p : Addr), h[a]? = some o → m[a]? = some p → RO M H m o p
  inj : ∀ (a b : Nat) (p : Addr) (o u : PO), m[a]? = some p → m[b]? = some p → h[a]? = some o → h[b]? = some u → isFrl o = false → isFrl u = false → a = b
def RL (K : PySem.W.Frag) (H : Hp) (m : List Addr) (l : Loc) (σ : L2.St) : Prop := l.length = σ.length ∧ ∀ (i : Nat) (v : PV), l[i]? = some (some v) → ∃ w, σ[i]? = some (some w) ∧ RV K H m v w
/-- tuples stay, what is locked stays -/
structure Kp (K : PySem.W.Frag) (H H' : Hp) : Prop where
  tup : ∀ p vs, SqT K H p vs → SqT K H' p vs
  frz : ∀ p o u, H p = some (.frz o u) → H' p = some (.frz o u)
def Ex (m m' : List Addr) : Prop := ∀ (a : Nat) (p : Addr), m[a]? = some p → m'[a]? = some p
theorem Kp.refl (K : PySem.W.Frag) (H : Hp) : Kp K H H := ⟨fun _ _ h => h, fun _ _ _ h => h⟩
theorem Kp.trans {K : PySem.W.Frag} {H H1 H2 : Hp} (a : Kp K H H1) (b : Kp K H1 H2) : Kp K H H2 := ⟨fun _ _ h => b.tup _ _ (a.tup _ _ h), fun _ _ _ h => b.frz _ _ _ (a.frz _ _ _ h)⟩
theorem Ex.refl (m : List Addr) : Ex m m := fun _ _ h => h
theorem Ex.trans {m m1 m2 : List Addr} (a : Ex m m1) (b : Ex m1 m2) : Ex m m2 := fun _ _ h => b _ _ (a _ _ h)
theorem Ex.app (m : List Addr) (p : Addr) : Ex m (m ++ [p]) := fun a q h => by
  rw [List.getElem?_append_left (List.getElem?_eq_some_iff.mp h).1]
  exact h
theorem Kp.upd_new {K : PySem.W.Frag} {H : Hp} {p : Addr} {o : HO} (h : H p = none) : Kp K H (upd H p o) := ⟨fun q vs s => by
  rcases s with (s | ⟨ob, s⟩) | s
  · exact .inl (.inl (by rw [upd_ne (ne_of_none s h)]; exact s))
  · exact .inl (.inr ⟨ob, by rw [upd_ne (ne_of_none s h)]; exact s⟩)
  · exact .inr s, fun q o' u s => (upd_ne (ne_of_none s h)).trans s⟩
def notTup : HO → Bool
  | .tup _ => false
  | .frz _ _ => false
  | _ => true
theorem Kp.upd_old {K : PySem.W.Frag} {H : Hp} {p : Addr} {o u : HO} (h : H p = some u) (n : notTup u = true) : Kp K H (upd H p o) := by
  have ne : ∀ q z, H q = some z → notTup z = false → q ≠ p := fun q z e nz e2 => by
    subst e2; rw [h] at e; cases e; rw [n] at nz; cases nz
  refine ⟨fun q vs s => ?_, fun q o' u s => (upd_ne (ne _ _ s rfl)).trans s⟩
  rcases s with (s | ⟨ob, s⟩) | s
  · exact .inl (.inl (by rw [upd_ne (ne _ _ s rfl)]; exact s))
  · exact .inl (.inr ⟨ob, by rw [upd_ne (ne _ _ s rfl)]; exact s⟩)
  · exact .inr s
mutual
theorem RV.mono {K : PySem.W.Frag} {H H' : Hp} {m m' : List Addr} (k : Kp K H H') (e : Ex m m') : ∀ (x : PV) (v : V), RV K H m x v → RV K H' m' x v
  | .non, v, h => h
  | .bl b, v, h => h
  | .int i, v, h => h
  | .str s, v, h => h
  | .ref a, v, h => by obtain ⟨p, a, b⟩ := h; exact ⟨p, e _ _ a, b⟩
  | .tup xs, v, h => by obtain ⟨p, vs, a, b, c⟩ := h; exact ⟨p, vs, a, k.tup _ _ b, RVs.mono k e xs vs c⟩
theorem RVs.mono {K : PySem.W.Frag} {H H' : Hp} {m m' : List Addr} (k : Kp K H H') (e : Ex m m') : ∀ (x : List PV) (v : List V), RVs K H m x v → RVs K H' m' x v
  | [], v, h => h
  | x :: xs, v, h => by obtain ⟨w, r, a, b, c⟩ := h; exact ⟨w, r, a, RV.mono k e x w b, RVs.mono k e xs r c⟩
end
theorem RKs.mono {K : PySem.W.Frag} {H H' : Hp} {m m' : List Addr} (k : Kp K H H') (e : Ex m m') : ∀ (x : List (PV × PV)) (v : List (Key × V)), RKs K H m x v → RKs K H' m' x v
  | [], v, h => h
  | (x, y) :: xs, v, h => by obtain ⟨w, u, r, a, b, c, d⟩ := h; exact ⟨w, u, r, a, b, RV.mono k e y u c, RKs.mono k e xs r d⟩
theorem optR.mono {K : PySem.W.Frag} {H H' : Hp} {m m' : List Addr} (k : Kp K H H') (e : Ex m m') : ∀ (x : Option PV) (v : Option V), optR K H m x v → optR K H' m' x v
  | some x, some v, h => RV.mono k e x v h
  | none, none, _ => trivial
  | some _, none, h => h.elim
  | none, some _, h => h.elim
theorem RL.mono {K : PySem.W.Frag} {H H' : Hp} {m m' : List Addr} {l : Loc} {σ : L2.St} (k : Kp K H H') (e : Ex m m') (r : RL K H m l σ) : RL K H' m' l σ :=
  ⟨r.1, fun i v h => let ⟨w, a, b⟩ := r.2 i v h; ⟨w, a, b.mono k e _ _⟩⟩
section
variable {K : PySem.W.Frag} {H H' : Hp} {m : List Addr}
mutual
theorem RV.mono' (kt : ∀ q vs, SqT K H q vs → SqT K H' q vs) : ∀ (x : PV) (v : V), RV K H m x v → RV K H' m x v
  | .non, v, h => h
  | .bl b, v, h => h
  | .int i, v, h => h
  | .str s, v, h => h
  | .ref a, v, h => h
  | .tup xs, v, h => by obtain ⟨p, vs, a, b, c⟩ := h; exact ⟨p, vs, a, kt _ _ b, RVs.mono' kt xs vs c⟩
theorem RVs.mono' (kt : ∀ q vs, SqT K H q vs → SqT K H' q vs) : ∀ (x : List PV) (v : List V), RVs K H m x v → RVs K H' m x v
  | [], v, h => h
  | x :: xs, v, h => by obtain ⟨w, r, a, b, c⟩ := h; exact ⟨w, r, a, RV.mono' kt x w b, RVs.mono' kt xs r c⟩
end
theorem RKs.mono' (kt : ∀ q vs, SqT K H q vs → SqT K H' q vs) : ∀ (x : List (PV × PV)) (v : List (Key × V)), RKs K H m x v → RKs K H' m x v
  | [], v, h => h
  | (x, y) :: xs, v, h => by obtain ⟨w, u, r, a, b, c, d⟩ := h; exact ⟨w, u, r, a, b, RV.mono' kt y u c, RKs.mono' kt xs r d⟩
theorem optR.mono' (kt : ∀ q vs, SqT K H q vs → SqT K H' q vs) : ∀ (x : Option PV) (v : Option V), optR K H m x v → optR K H' m x v
  | some x, some v, h => RV.mono' kt x v h
  | none, none, _ => trivial
  | some _, none, h => h.elim
  | none, some _, h => h.elim
end
theorem RVs.len {K : PySem.W.Frag} {H : Hp} {m : List Addr} : ∀ {xs : List PV} {vs : List V}, RVs K H m xs vs → xs.length = vs.length
  | [], vs, h => by cases (show vs = [] from h); rfl
  | x :: xs, vs, h => by obtain ⟨v, r, a, _, c⟩ := h; subst a; rw [List.length_cons, List.length_cons, RVs.len c]
theorem RVs.get {K : PySem.W.Frag} {H : Hp} {m : List Addr} : ∀ {xs : List PV} {vs : List V} {i : Nat} {x : PV}, RVs K H m xs vs → xs[i]? = some x → ∃ v, vs[i]? = some v ∧ RV K H m x v
  | [], vs, i, x, h, e => by simp at e
  | y :: ys, vs, 0, x, h, e => by
    obtain ⟨v, r, a, b, c⟩ := h
    subst a
    simp at e; subst e
    exact ⟨v, rfl, b⟩
  | y :: ys, vs, i + 1, x, h, e => by
    obtain ⟨v, r, a, b, c⟩ := h
    subst a
    obtain ⟨w, p, q⟩ := RVs.get (i := i) c (by simpa using e)
    exact ⟨w, by simpa using p, q⟩
theorem RVs.app {K : PySem.W.Frag} {H : Hp} {m : List Addr} : ∀ {xs ys : List PV} {vs ws : List V}, RVs K H m xs vs → RVs K H m ys ws → RVs K H m (xs ++ ys) (vs ++ ws)
  | [], ys, vs, ws, h, g => by cases (show vs = [] from h); exact g
  | x :: xs, ys, vs, ws, h, g => by obtain ⟨v, r, a, b, c⟩ := h; subst a; exact ⟨v, r ++ ws, rfl, b, RVs.app c g⟩
theorem RVs.one {K : PySem.W.Frag} {H : Hp} {m : List Addr} {x : PV} {v : V} (h : RV K H m x v) : RVs K H m [x] [v] := ⟨v, [], rfl, h, rfl⟩
theorem RVs.drop {K : PySem.W.Frag} {H : Hp} {m : List Addr} : ∀ {xs : List PV} {vs : List V} (n : Nat), RVs K H m xs vs → RVs K H m (xs.drop n) (vs.drop n)
  | xs, vs, 0, h => h
  | [], vs, n + 1, h => by cases (show vs = [] from h); exact rfl
  | x :: xs, vs, n + 1, h => by obtain ⟨v, r, a, b, c⟩ := h; subst a; exact RVs.drop n c
theorem RVs.take {K : PySem.W.Frag} {H : Hp} {m : List Addr} : ∀ {xs : List PV} {vs : List V} (n : Nat), RVs K H m xs vs → RVs K H m (xs.take n) (vs.take n)
  | xs, vs, 0, h => rfl
  | [], vs, n + 1, h => by cases (show vs = [] from h); exact rfl
  | x :: xs, vs, n + 1, h => by obtain ⟨v, r, a, b, c⟩ := h; subst a; exact ⟨v, r.take n, rfl, b, RVs.take n c⟩
theorem RVs.setI {K : PySem.W.Frag} {H : Hp} {m : List Addr} {y : PV} {w : V} (hy : RV K H m y w) : ∀ {xs : List PV} {vs : List V} (i : Nat), RVs K H m xs vs → RVs K H m (xs.set i y) (vs.set i w)
  | [], vs, i, h => by cases (show vs = [] from h); exact rfl
  | x :: xs, vs, 0, h => by obtain ⟨v, r, a, b, c⟩ := h; subst a; exact ⟨w, r, rfl, hy, c⟩
  | x :: xs, vs, i + 1, h => by obtain ⟨v, r, a, b, c⟩ := h; subst a; exact ⟨v, r.set i w, rfl, b, RVs.setI hy i c⟩
theorem RO.mono {M : Mo} {H H' : Hp} {m m' : List Addr} {o : PO} {p : Addr} (k : Kp M.K H H') (e : Ex m m') (hp : ∀ u, H p = some u → H' p = some u) (r : RO M H m o p) : RO M H' m' o p := by
  cases o with
  | lst xs => obtain ⟨vs, a, b⟩ := r; exact ⟨vs, hp _ a, b.mono k e _ _⟩
  | frl xs =>
    obtain ⟨vs, a, b⟩ := r
    refine ⟨vs, ?_, b.mono k e _ _⟩
    rcases a with ⟨o, a⟩ | a
    · exact .inl ⟨o, hp _ a⟩
    · exact .inr a
  | dic kvs => obtain ⟨vs, a, b⟩ := r; exact ⟨vs, hp _ a, b.mono k e _ _⟩
  | frd kvs => obtain ⟨vs, ⟨o, a⟩, b⟩ := r; exact ⟨vs, ⟨o, hp _ a⟩, b.mono k e _ _⟩
  | tpl kvs => obtain ⟨vs, ⟨o, a, a'⟩, b⟩ := r; exact ⟨vs, ⟨o, hp _ a, a'⟩, b.mono k e _ _⟩
  | ins c fs => obtain ⟨dx, gs, cd, a, b, c1, d⟩ := r; exact ⟨dx, gs, cd, hp _ a, b, fun f hf => (c1 f hf).mono k e _ _, d⟩
theorem RO.mono' {M : Mo} {H H' : Hp} {m : List Addr} {o : PO} {p : Addr} (k : ∀ q vs, SqT M.K H q vs → SqT M.K H' q vs) (hp : ∀ u, H p = some u → H' p = some u) (r : RO M H m o p) : RO M H' m o p := by
  cases o with
  | lst xs => obtain ⟨vs, a, b⟩ := r; exact ⟨vs, hp _ a, b.mono' k _ _⟩
  | frl xs =>
    obtain ⟨vs, a, b⟩ := r
    refine ⟨vs, ?_, b.mono' k _ _⟩
    rcases a with ⟨o, a⟩ | a
    · exact .inl ⟨o, hp _ a⟩
    · exact .inr a
  | dic kvs => obtain ⟨vs, a, b⟩ := r; exact ⟨vs, hp _ a, b.mono' k _ _⟩
  | frd kvs => obtain ⟨vs, ⟨o, a⟩, b⟩ := r; exact ⟨vs, ⟨o, hp _ a⟩, b.mono' k _ _⟩
  | tpl kvs => obtain ⟨vs, ⟨o, a, a'⟩, b⟩ := r; exact ⟨vs, ⟨o, hp _ a, a'⟩, b.mono' k _ _⟩
  | ins c fs => obtain ⟨dx, gs, cd, a, b, c1, d⟩ := r; exact ⟨dx, gs, cd, hp _ a, b, fun f hf => (c1 f hf).mono' k _ _, d⟩
/-- the tracked content of an object that is no frozen list -/
theorem RO.at {M : Mo} {H : Hp} {m : List Addr} {o : PO} {p : Addr} (r : RO M H m o p) (n : isRo o = false) : ∃ u, H p = some u ∧ notTup u = true := by
  cases o with
  | lst xs => obtain ⟨vs, a, b⟩ := r; exact ⟨_, a, rfl⟩
  | frl xs => cases n
  | frd xs => cases n
  | tpl xs => cases n
  | dic kvs => obtain ⟨vs, a, b⟩ := r; exact ⟨_, a, rfl⟩
  | ins c fs => obtain ⟨dx, gs, cd, a, _⟩ := r; exact ⟨_, a, rfl⟩
theorem RO.there {M : Mo} {H : Hp} {m : List Addr} {o : PO} {p : Addr} (r : RO M H m o p) (n : isFrl o = false) : ∃ u, H p = some u := by
  cases o with
  | lst xs => obtain ⟨vs, a, b⟩ := r; exact ⟨_, a⟩
  | frl xs => cases n
  | frd xs => obtain ⟨vs, ⟨o, a⟩, b⟩ := r; exact ⟨_, a⟩
  | tpl xs => obtain ⟨vs, ⟨o, a, _⟩, b⟩ := r; exact ⟨_, a⟩
  | dic kvs => obtain ⟨vs, a, b⟩ := r; exact ⟨_, a⟩
  | ins c fs => obtain ⟨dx, gs, cd, a, _⟩ := r; exact ⟨_, a⟩
theorem RH.lt {M : Mo} {H : Hp} {m : List Addr} {h : PH} (r : RH M H m h) {a : Nat} {p : Addr} (e : m[a]? = some p) : ∃ o, h[a]? = some o := by
  have h1 := (List.getElem?_eq_some_iff.mp e).1
  rw [r.len] at h1
  exact ⟨h[a], List.getElem?_eq_getElem h1⟩
theorem RH.addr {M : Mo} {H : Hp} {m : List Addr} {h : PH} (r : RH M H m h) {a : Nat} {o : PO} (e : h[a]? = some o) : ∃ p, m[a]? = some p ∧ RO M H m o p := by
  have h1 := (List.getElem?_eq_some_iff.mp e).1
  rw [← r.len] at h1
  exact ⟨m[a], List.getElem?_eq_getElem h1, r.obj a o _ e (List.getElem?_eq_getElem h1)⟩
theorem isK_of {K : PySem.W.Frag} {H : Hp} {m : List Addr} {k : PV} {y : V} (h : isK k = true) (r : RV K H m k y) : ∃ q, keyV k = some q ∧ y = kV q := by
  cases k <;> first | exact absurd h Bool.false_ne_true | skip
  · exact ⟨_, rfl, r⟩
  · exact ⟨_, rfl, r⟩
theorem eqK_of {x k : PV} {p q : Key} (hx : keyV x = some p) (hk : keyV k = some q) : eqK x k = decide (p = q) := by
  cases x <;> first | cases hx; done | skip
  all_goals (cases k <;> first | cases hk; done | skip)
  all_goals cases hx
  all_goals cases hk
  all_goals (unfold eqK; rw [Bool.eq_iff_iff]; simp)
theorem look_of {K : PySem.W.Frag} {H : Hp} {m : List Addr} {k : PV} {q : Key} (hk : keyV k = some q) : ∀ {xs : List (PV × PV)} {ks : List (Key × V)}, RKs K H m xs ks → optR K H m (lookD k xs) (valV ks q)
  | [], ks, h => by cases (show ks = [] from h); exact trivial
  | (x, y) :: r, ks, h => by
    obtain ⟨p, v, s, rfl, hx, rv, hr⟩ := h
    have e := eqK_of hx hk
    show optR K H m (if eqK x k = true then some y else lookD k r) _
    by_cases hp : p = q
    · rw [e, decide_eq_true hp, if_pos rfl, valV_pos (show ((p, v) : Key × V).1 = q from hp)]
      exact rv
    · rw [e, decide_eq_false hp, if_neg Bool.false_ne_true]
      have e2 : valV ((p, v) :: s) q = valV s q := by simp [valV, List.find?_cons, hp]
      rw [e2]
      exact look_of hk hr
theorem any_of {K : PySem.W.Frag} {H : Hp} {m : List Addr} {k : PV} {q : Key} (hk : keyV k = some q) : ∀ {xs : List (PV × PV)} {ks : List (Key × V)}, RKs K H m xs ks → (xs.any fun p => eqK p.1 k) = ks.any fun kv => decide (kv.1 = q)
  | [], ks, h => by cases (show ks = [] from h); rfl
  | (x, y) :: r, ks, h => by
    obtain ⟨p, v, s, rfl, hx, rv, hr⟩ := h
    rw [List.any_cons, List.any_cons, any_of hk hr]
    show (eqK x k || _) = (decide (p = q) || _)
    rw [eqK_of hx hk]
theorem map_of {K : PySem.W.Frag} {H : Hp} {m : List Addr} {k z : PV} {q : Key} {w : V} (hk : keyV k = some q) (hz : RV K H m z w) : ∀ {xs : List (PV × PV)} {ks : List (Key × V)}, RKs K H m xs ks → RKs K H m (xs.map fun p => if eqK p.1 k = true then (p.1, z) else p) (ks.map fun kv => if kv.1 = q then (kv.1, w) else kv)
  | [], ks, h => by cases (show ks = [] from h); rfl
  | (x, y) :: r, ks, h => by
    obtain ⟨p, v, s, rfl, hx, rv, hr⟩ := h
    have ih := map_of hk hz hr
    have e := eqK_of hx hk
    rw [List.map_cons, List.map_cons]
    by_cases hp : p = q
    · rw [show (if eqK (x, y).1 k = true then ((x, y).1, z) else (x, y)) = (x, z) from if_pos (by show eqK x k = true; rw [e, decide_eq_true hp]), show (if ((p, v) : Key × V).1 = q then (((p, v) : Key × V).1, w) else (p, v)) = (p, w) from if_pos hp]
      exact ⟨p, w, _, rfl, hx, hz, ih⟩
    · rw [show (if eqK (x, y).1 k = true then ((x, y).1, z) else (x, y)) = (x, y) from if_neg (by show ¬ eqK x k = true; rw [e, decide_eq_false hp]; exact Bool.false_ne_true), show (if ((p, v) : Key × V).1 = q then (((p, v) : Key × V).1, w) else (p, v)) = (p, v) from if_neg hp]
      exact ⟨p, v, _, rfl, hx, rv, ih⟩
theorem snoc_of {K : PySem.W.Frag} {H : Hp} {m : List Addr} {k z : PV} {q : Key} {w : V} (hk : keyV k = some q) (hz : RV K H m z w) : ∀ {xs : List (PV × PV)} {ks : List (Key × V)}, RKs K H m xs ks → RKs K H m (xs ++ [(k, z)]) (ks ++ [(q, w)])
  | [], ks, h => by cases (show ks = [] from h); exact ⟨q, w, [], rfl, hk, hz, rfl⟩
  | (x, y) :: r, ks, h => by
    obtain ⟨p, v, s, rfl, hx, rv, hr⟩ := h
    exact ⟨p, v, _, rfl, hx, rv, snoc_of hk hz hr⟩
theorem put_of {K : PySem.W.Frag} {H : Hp} {m : List Addr} {k z : PV} {q : Key} {w : V} (hk : keyV k = some q) (hz : RV K H m z w) {xs : List (PV × PV)} {ks : List (Key × V)} (h : RKs K H m xs ks) : RKs K H m (putD k z xs) (putK ks q w) := by
  unfold putD putK
  rw [any_of hk h]
  split
  · exact map_of hk hz h
  · exact snoc_of hk hz h
theorem RKs.len {K : PySem.W.Frag} {H : Hp} {m : List Addr} : ∀ {xs : List (PV × PV)} {ks : List (Key × V)}, RKs K H m xs ks → xs.length = ks.length
  | [], ks, h => by cases (show ks = [] from h); rfl
  | (x, y) :: r, ks, h => by
    obtain ⟨p, v, s, rfl, _, _, hr⟩ := h
    exact congrArg Nat.succ hr.len
/-- a new object -/
theorem RH.new {M : Mo} {H : Hp} {m : List Addr} {h : PH} {p : Addr} {u : HO} {o : PO} (r : RH M H m h) (hp : H p = none) (ho : RO M (upd H p u) (m ++ [p]) o p) (nf : isFrl o = false) :
    RH M (upd H p u) (m ++ [p]) (h ++ [o]) := by
  have k : Kp M.K H (upd H p u) := Kp.upd_new hp
  have ex : Ex m (m ++ [p]) := Ex.app m p
  have old : ∀ (a : Nat) (o' : PO) (q : Addr), h[a]? = some o' → m[a]? = some q → isFrl o' = false → q ≠ p := fun a o' q e1 e2 hf z => by
    subst z
    obtain ⟨u', e3⟩ := (r.obj a o' q e1 e2).there hf
    rw [hp] at e3; cases e3
  have cases_ : ∀ (a : Nat) (o' : PO) (q : Addr), (h ++ [o])[a]? = some o' → (m ++ [p])[a]? = some q → (h[a]? = some o' ∧ m[a]? = some q) ∨ (a = h.length ∧ o' = o ∧ q = p) := fun a o' q e1 e2 => by
    by_cases ha : a < h.length
    · rw [List.getElem?_append_left ha] at e1
      rw [List.getElem?_append_left (by rw [r.len]; exact ha)] at e2
      exact .inl ⟨e1, e2⟩
    · rw [List.getElem?_append_right (Nat.le_of_not_lt ha)] at e1
      rw [List.getElem?_append_right (by rw [r.len]; exact Nat.le_of_not_lt ha), r.len] at e2
      have hz : a - h.length = 0 := by
        cases hn : a - h.length with
        | zero => rfl
        | succ n => rw [hn] at e1; simp at e1
      rw [hz] at e1 e2
      simp at e1 e2
      exact .inr ⟨by omega, e1.symm, e2.symm⟩
  refine ⟨by simp [r.len], fun a o' q e1 e2 => ?_, fun a b q o1 o2 e1 e2 e3 e4 n1 n2 => ?_⟩
  · rcases cases_ a o' q e1 e2 with ⟨e1, e2⟩ | ⟨_, rfl, rfl⟩
    · exact (r.obj a o' q e1 e2).mono k ex fun u e => (upd_ne (ne_of_none e hp)).trans e
    · exact ho
  · rcases cases_ a o1 q e3 e1 with ⟨e3, e1⟩ | ⟨ha, _, hqa⟩ <;> rcases cases_ b o2 q e4 e2 with ⟨e4, e2⟩ | ⟨hb, _, hqb⟩
    · exact r.inj a b q o1 o2 e1 e2 e3 e4 n1 n2
    · exact absurd hqb (old a o1 q e3 e1 n1)
    · exact absurd hqa (old b o2 q e4 e2 n2)
    · omega
/-- an object changed: what stood there is no tuple and not locked -/
theorem RH.putW {M : Mo} {H : Hp} {m : List Addr} {h : PH} {a : Nat} {p : Addr} {u u0 : HO} {o o0 : PO} (r : RH M H m h) (e0 : h[a]? = some o0) (ep : m[a]? = some p) (f0 : isFrl o0 = false) (e3 : H p = some u0) (nl : ∀ o' xs, u0 ≠ .frz o' (.lst xs)) (kt : ∀ q vs, SqT M.K H q vs → SqT M.K (upd H p u) q vs)
    (ho : RO M (upd H p u) m o p) : RH M (upd H p u) m (h.set a o) := by
  have mv : ∀ x v, RV M.K H m x v → RV M.K (upd H p u) m x v := by
    have k' : ∀ {H' : Hp}, (∀ q vs, SqT M.K H q vs → SqT M.K H' q vs) → (∀ (x : PV) (v : V), RV M.K H m x v → RV M.K H' m x v) ∧ (∀ (x : List PV) (v : List V), RVs M.K H m x v → RVs M.K H' m x v) := fun kt => ⟨fun x v => RV.mono' kt x v, fun x v => RVs.mono' kt x v⟩
    exact (k' kt).1
  have hlt := (List.getElem?_eq_some_iff.mp e0).1
  refine ⟨by simp [r.len], fun b o' q e1 e2 => ?_, fun b c q o1 o2 e1 e2 e3' e4 n1 n2 => ?_⟩
  · by_cases hb : b = a
    · subst hb
      rw [List.getElem?_set_self hlt] at e1
      rw [ep] at e2
      cases e1; cases e2
      exact ho
    · rw [List.getElem?_set_ne (Ne.symm hb)] at e1
      have ro := r.obj b o' q e1 e2
      by_cases hq : q = p
      · subst hq
        cases hf : isFrl o' with
        | false => exact absurd (r.inj b a q o' o0 e2 ep e1 e0 hf f0) hb
        | true =>
          cases o' with
          | frl xs =>
            obtain ⟨vs, s, rv⟩ := ro
            refine ⟨vs, ?_, RVs.mono' kt _ _ rv⟩
            rcases s with ⟨ob, s⟩ | s
            · rw [e3] at s; cases s; exact absurd rfl (nl _ _)
            · exact .inr s
          | _ => cases hf
      · exact ro.mono' kt fun u e => (upd_ne hq).trans e
  · have back : ∀ (b : Nat) (o1 : PO), (h.set a o)[b]? = some o1 → isFrl o1 = false → ∃ o1', h[b]? = some o1' ∧ isFrl o1' = false := fun b o1 e n => by
      by_cases hb : b = a
      · subst hb; exact ⟨o0, e0, f0⟩
      · rw [List.getElem?_set_ne (Ne.symm hb)] at e; exact ⟨o1, e, n⟩
    obtain ⟨o1', f1, g1⟩ := back b o1 e3' n1
    obtain ⟨o2', f2, g2⟩ := back c o2 e4 n2
    exact r.inj b c q o1' o2' e1 e2 f1 f2 g1 g2
theorem RH.put {M : Mo} {H : Hp} {m : List Addr} {h : PH} {a : Nat} {p : Addr} {u : HO} {o o0 : PO} (r : RH M H m h) (e0 : h[a]? = some o0) (ep : m[a]? = some p) (n0 : isRo o0 = false) (nf : isFrl o = false)
    (ho : RO M (upd H p u) m o p) : RH M (upd H p u) m (h.set a o) ∧ Kp M.K H (upd H p u) := by
  obtain ⟨u0, e3, n3⟩ := (r.obj a o0 p e0 ep).at n0
  have k : Kp M.K H (upd H p u) := Kp.upd_old e3 n3
  exact ⟨r.putW e0 ep (isRo_frl n0) e3 (fun o' xs z => by rw [z] at n3; cases n3) k.tup ho, k⟩
/-- a dict is locked -/
theorem RH.lock {M : Mo} {H : Hp} {m : List Addr} {h : PH} {a : Nat} {p : Addr} {kvs : List (PV × PV)} (r : RH M H m h) (e0 : h[a]? = some (.dic kvs)) (ep : m[a]? = some p) :
    ∃ ks, H p = some (.dK ks) ∧ ∀ od, RH M (upd H p (.frz od (.dK ks))) m (h.set a (.frd kvs)) ∧ Kp M.K H (upd H p (.frz od (.dK ks))) := by
  obtain ⟨ks, e1, rk⟩ := r.obj a _ p e0 ep
  refine ⟨ks, e1, fun od => ?_⟩
  have k : Kp M.K H (upd H p (.frz od (.dK ks))) := Kp.upd_old e1 rfl
  exact r.put e0 ep rfl rfl ⟨ks, ⟨od, upd_same⟩, rk.mono k (Ex.refl m) _ _⟩
/-- .. and loosed -/
theorem RH.loose {M : Mo} {H H' : Hp} {m' : List Addr} {h : PH} {a : Nat} {p : Addr} {kvs : List (PV × PV)} {od : Obj} {ks : List (Key × V)} (kp : Kp M.K (upd H p (.frz od (.dK ks))) H') (hp : H p = some (.dK ks)) (r : RH M H' m' h) (e0 : h[a]? = some (.frd kvs)) (ep : m'[a]? = some p) :
    RH M (upd H' p (.dK ks)) m' (h.set a (.dic kvs)) ∧ Kp M.K H (upd H' p (.dK ks)) ∧ (∀ x v, RV M.K H' m' x v → RV M.K (upd H' p (.dK ks)) m' x v) ∧ (∀ q vs, SqT M.K H' q vs → SqT M.K (upd H' p (.dK ks)) q vs) := by
  have hf : H' p = some (.frz od (.dK ks)) := kp.frz _ _ _ upd_same
  have kt : ∀ q vs, SqT M.K H' q vs → SqT M.K (upd H' p (.dK ks)) q vs := fun q vs s => by
    have ne : ∀ z, H' q = some z → z ≠ .frz od (.dK ks) → q ≠ p := fun z e nz e2 => by
      subst e2; rw [hf] at e; cases e; exact nz rfl
    rcases s with (s | ⟨ob, s⟩) | s
    · exact .inl (.inl (by rw [upd_ne (ne _ s (fun z => by cases z))]; exact s))
    · exact .inl (.inr ⟨ob, by rw [upd_ne (ne _ s (fun z => by cases z))]; exact s⟩)
    · exact .inr s
  obtain ⟨ks', ⟨o', e1⟩, rk⟩ := r.obj a _ p e0 ep
  rw [hf] at e1
  cases e1
  have k0 : Kp M.K H (upd H p (.frz od (.dK ks))) := Kp.upd_old hp rfl
  refine ⟨r.putW e0 ep rfl hf (fun o' xs z => by cases z) kt ⟨ks, upd_same, RKs.mono' kt _ _ rk⟩, ⟨fun q vs s => kt q vs (kp.tup q vs (k0.tup q vs s)), fun q o u s => ?_⟩, fun x v rv => RV.mono' kt x v rv, kt⟩
  have ne : q ≠ p := fun z => by subst z; rw [hp] at s; cases s
  rw [upd_ne ne]
  exact kp.frz _ _ _ ((upd_ne ne).trans s)
end Py

set_option Elab.async false
set_option linter.all false
set_option maxRecDepth 100000
set_option maxHeartbeats 4000000
/-! PyOps: operators that the layer lacks: tuple * 0, tuple * 1, is a truth, repr of data. -/
namespace Py
open PySem PySem.Spec PyProof.Rows L2
theorem mul_one (l : Addr) (items : Array Value) (n : Nat) (dd : Option Addr) (sl : Array (Option Value)) (u : Tok) :
    Meets (Builtin.«tuple.__mul__» ⟨[.ref l, .int 1 u], []⟩) (fun _ R s => s.heap.get? l = some { cls := .type "tuple", dict := dd, data := .seq items n, slots := sl } ∧ R (.ok (.ret (Value.ref l))) s) :=
  .of_wp fun prog w A R s h => by
    obtain ⟨hp, g, d, tk, os⟩ := s
    obtain ⟨hl, h⟩ := h
    have f1 := AutoSeq1.idx_int
    have c1 : (items.isEmpty || ((1 : Int) == 1)) = true := by simp
    wp_walk using wpAny_loadPart' hl
    repeat (first
      | (refine wpAny_ite_false (decide_eq_false (by decide)) ?_; wp_walk using wpAny_loadPart' hl)
      | (refine wpAny_ite_true (by first | exact c1 | exact decide_eq_true c1) ?_; wp_walk using wpAny_loadPart' hl))
    exact ⟨_, rfl, h⟩
theorem mul_none (l : Addr) (items : Array Value) (n : Nat) (dd : Option Addr) (sl : Array (Option Value)) (x : Int) (u : Tok) (c0 : (decide (x < -(2 ^ 63)) || decide (x ≥ 2 ^ 63)) = false) (c1 : (items.isEmpty || x == 1) = false) (c2 : (decide (x ≤ 0) || items.isEmpty) = true) :
    Meets (Builtin.«tuple.__mul__» ⟨[.ref l, .int x u], []⟩) (fun _ R s => s.heap.get? l = some { cls := .type "tuple", dict := dd, data := .seq items n, slots := sl } ∧
      R (.ok (.ret (Value.ref s.heap.objs.size))) { s with heap := s.heap.push { cls := Value.type "tuple", data := Data.seq #[] }, toks := s.toks }) :=
  .of_wp fun prog w A R s h => by
    obtain ⟨hp, g, d, tk, os⟩ := s
    obtain ⟨hl, h⟩ := h
    have f1 := AutoSeq1.idx_int
    wp_walk using wpAny_loadPart' hl
    repeat (first
      | (refine wpAny_ite_false (decide_eq_false (by rw [c0]; exact Bool.false_ne_true)) ?_; wp_walk using wpAny_loadPart' hl)
      | (refine wpAny_ite_false (decide_eq_false (by rw [c1]; exact Bool.false_ne_true)) ?_; wp_walk using wpAny_loadPart' hl)
      | (refine wpAny_ite_true (by first | exact c2 | exact decide_eq_true c2) ?_; wp_walk using wpAny_loadPart' hl))
    exact ⟨_, rfl, h⟩
section
variable {X : Cx}
/-- tuple * int, the tuple not empty -/
def rMulT (K : PySem.W.Frag) : R2 := fun x y H Q => ∃ l k xs, x = .ref l ∧ y = .int k ∧ SqT K H l xs ∧ xs ≠ [] ∧ -1000 ≤ k ∧ k ≤ 1000 ∧ xs.length ≤ 1000 ∧ (k = 1 → Q (.ref l) H) ∧ (k ≤ 0 → ∀ p, H p = none → Q (.ref p) (upd H p (.tup []))) ∧
  (2 ≤ k → ∀ p, H p = none → Q (.ref p) (upd H p (.tup (List.replicate k.toNat xs).flatten)))
theorem op_mulT : OpR X (binaryOp .Mult) (rMulT X.K) := by
  intro pins s σ H x y v u Q I rx ry h
  obtain ⟨l, k, xs, rfl, rfl, hT, hne, h0, h1, hz, q1, q0, q2⟩ := h
  by_cases h2 : 2 ≤ k
  · exact op_repT pins s σ H _ _ v u Q I rx ry ⟨l, k, xs, rfl, rfl, hT, hne, h2, h1, hz, q2 h2⟩
  cases rx
  obtain ⟨t, rfl⟩ := ry
  obtain ⟨its, r, ⟨⟨cls, dd, data, sl⟩, ho, hc, n, hd⟩, hs⟩ := I.tuple hT
  simp only at hc hd
  subst hc hd
  by_cases h3 : k = 1
  · subst h3
    refine wpAny_binaryOp_repeat_ref (T := "tuple") (U := "int") (by decide) ⟨_, ho, rfl⟩ (fun s' => typeIs_int s' 1 t) noFill_tuple_mul F.fills_int_mul F.slot_int_rmul repeat_tuple F.slot_int_index.lookup
      (call_meets F.slot_int_rmul (typeIs_int s 1 t) F.entry_int_rmul (F.args_int_rmul_2 _ _) (int_rmul_tuple 1 t l its.toArray n dd sl)
        ⟨ho, rfl, ⟨_, ho, rfl⟩, call_meets F.slot_tuple_mul ⟨_, ho, rfl⟩ F.entry_tuple_mul (F.args_tuple_mul_2 _ _) (mul_one l its.toArray n dd sl t) ⟨ho, ?_⟩⟩)
    exact ⟨.ref l, _, I, rfl, q1 rfl⟩
  · have hn : its ≠ [] := fun e => hne (by
      have := r.length
      rw [e] at this
      exact List.eq_nil_of_length_eq_zero this)
    have hi : its.toArray.isEmpty = false := by
      cases its with
      | nil => exact absurd rfl hn
      | cons a b => rfl
    have k0 : k ≤ 0 := by omega
    refine wpAny_binaryOp_repeat_ref (T := "tuple") (U := "int") (by decide) ⟨_, ho, rfl⟩ (fun s' => typeIs_int s' k t) noFill_tuple_mul F.fills_int_mul F.slot_int_rmul repeat_tuple F.slot_int_index.lookup
      (call_meets F.slot_int_rmul (typeIs_int s k t) F.entry_int_rmul (F.args_int_rmul_2 _ _) (int_rmul_tuple k t l its.toArray n dd sl)
        ⟨ho, rfl, ⟨_, ho, rfl⟩, call_meets F.slot_tuple_mul ⟨_, ho, rfl⟩ F.entry_tuple_mul (F.args_tuple_mul_2 _ _) (mul_none l its.toArray n dd sl k t ?_ ?_ ?_) ⟨ho, ?_⟩⟩)
    · rw [decide_eq_false (by omega), decide_eq_false (by omega)] <;> rfl
    · rw [hi, Bool.false_or]
      exact beq_eq_false_iff_ne.mpr h3
    · rw [decide_eq_true k0] <;> rfl
    · exact ⟨.ref s.heap.objs.size, _, I.laid (t' := s.toks) (o := .tup []) (fun b ob q => Heap.get?_push_of_some _ q) (Nat.le_refl _) ⟨Nat.zero_le _, [], .nil, IsTup.new _ _⟩, rfl, q0 k0 _ (I.hok.fresh (Nat.le_refl _))⟩
/-- is a truth -/
theorem op_isB : OpR X (compareOp .Is) (fun x y H Q => ∃ b, y = .bl b ∧ (∀ a, x ≠ .ref a) ∧ (∀ n, x ≠ .ty n) ∧ Q (.bl (decide (x = .bl b))) H) := by
  intro pins s σ H x y v u Q I rx ry h
  obtain ⟨b, rfl, n1, n2, q⟩ := h
  cases ry
  have fin : ∀ {w : Value} {c : Bool}, plainIs w (.bool b) = true → (w == .bool b) = c → Q (.bl c) H → wpAny (model X.prog X.w) X.A (compareOp .Is w (.bool b)) (EP X pins σ Q) X.xe s := fun {w c} h1 h2 q => by
    subst h2
    exact wpAny_is_plain h1 ⟨.bl _, H, I, rfl, q⟩
  cases x with
  | non => cases rx; exact fin rfl rfl q
  | bl a =>
    cases rx
    refine fin rfl (c := decide (V.bl a = V.bl b)) ?_ q
    cases a <;> cases b <;> rfl
  | int i => obtain ⟨t, rfl⟩ := rx; exact fin rfl rfl q
  | str i => obtain ⟨t, rfl⟩ := rx; exact fin rfl rfl q
  | byt i => obtain ⟨t, rfl⟩ := rx; exact fin rfl rfl q
  | flt i => obtain ⟨t, rfl⟩ := rx; exact fin rfl rfl q
  | ref a => exact absurd rfl (n1 a)
  | ty n => exact absurd rfl (n2 n)
theorem op_isNB : OpR X (compareOp .IsNot) (fun x y H Q => ∃ b, y = .bl b ∧ (∀ a, x ≠ .ref a) ∧ (∀ n, x ≠ .ty n) ∧ Q (.bl (!decide (x = .bl b))) H) := by
  intro pins s σ H x y v u Q I rx ry h
  obtain ⟨b, rfl, n1, n2, q⟩ := h
  cases ry
  have fin : ∀ {w : Value} {c : Bool}, plainIs w (.bool b) = true → (w == .bool b) = c → Q (.bl (!c)) H → wpAny (model X.prog X.w) X.A (compareOp .IsNot w (.bool b)) (EP X pins σ Q) X.xe s := fun {w c} h1 h2 q => by
    subst h2
    exact wpAny_isNot_plain h1 ⟨.bl _, H, I, rfl, q⟩
  cases x with
  | non => cases rx; exact fin rfl rfl q
  | bl a =>
    cases rx
    refine fin rfl (c := decide (V.bl a = V.bl b)) ?_ q
    cases a <;> cases b <;> rfl
  | int i => obtain ⟨t, rfl⟩ := rx; exact fin rfl rfl q
  | str i => obtain ⟨t, rfl⟩ := rx; exact fin rfl rfl q
  | byt i => obtain ⟨t, rfl⟩ := rx; exact fin rfl rfl q
  | flt i => obtain ⟨t, rfl⟩ := rx; exact fin rfl rfl q
  | ref a => exact absurd rfl (n1 a)
  | ty n => exact absurd rfl (n2 n)
theorem foldl_app : ∀ (l : List (Array Nat)) (a : Array Nat), (l.foldl (· ++ ·) a).toList = a.toList ++ (l.map (·.toList)).flatten
  | [], a => by simp
  | x :: r, a => by rw [List.foldl_cons, foldl_app r (a ++ x)]; simp
/-- text * int -/
theorem op_mulStr : OpR X (binaryOp .Mult) (fun x y H Q => ∃ a k, x = .str a ∧ y = .int k ∧ -(2 ^ 63) ≤ k ∧ k < 2 ^ 63 ∧ a.length * k.toNat ≤ 16777216 ∧ a.length ≤ 16777216 ∧ Q (.str ⟨(List.replicate k.toNat a.cps.toList).flatten.toArray⟩) H) := by
  intro pins s σ H x y v u Q I rx ry h
  obtain ⟨a, k, rfl, rfl, h1, h2, h3, h4, q⟩ := h
  obtain ⟨t, rfl⟩ := rx
  obtain ⟨t', rfl⟩ := ry
  have fin : ∀ (z : Str) (tk : Tok) (s' : Shared), z = ⟨(List.replicate k.toNat a.cps.toList).flatten.toArray⟩ → L2.Inv X pins σ H s' → EP X pins σ Q (.str z tk) s' := fun z tk s' e I' => by
    subst e; exact ⟨.str _, H, I', ⟨tk, rfl⟩, q⟩
  refine PySem.P.mul_str (by rw [decide_eq_false (by omega), decide_eq_false (by omega)]; rfl) (fun hn _ => ?_) (fun hn _ => ?_) ?_
  · have hk : 0 < k := by omega
    have e : k = (k.toNat : Int) := by omega
    have h5 : (a.length : Int) * k ≤ 16777216 := by
      rw [e, ← Int.natCast_mul]; exact Int.ofNat_le.mpr h3
    have : (a.length : Int) ≤ (2 ^ 63 - 1) / k := by
      rw [Int.le_ediv_iff_mul_le hk]; omega
    omega
  · show decide _ = false
    exact decide_eq_false (by show ¬ _ > 2 ^ 24; omega)
  · split
    · rename_i hn
      refine ⟨by show (0 : Nat) ≤ 2 ^ 24; omega, fin _ _ _ ?_ (I.tok _)⟩
      rw [show k.toNat = 0 by omega]; rfl
    · rename_i hn
      split
      · rename_i h0
        refine fin a t s ?_ I
        rcases Bool.or_eq_true_iff.mp h0 with h0 | h0
        · have : k = 1 := by simpa using h0
          subst this
          simp
        · have : a.length = 0 := by simpa using h0
          have e : a.cps = #[] := Array.eq_empty_of_size_eq_zero this
          obtain ⟨c⟩ := a
          subst e
          simp
      · have e : (⟨(List.replicate k.toNat a.cps).foldl (· ++ ·) #[]⟩ : Str) = ⟨(List.replicate k.toNat a.cps.toList).flatten.toArray⟩ := by
          congr 1
          apply Array.ext'
          rw [foldl_app]; simp
        refine ⟨?_, fin _ _ _ e (I.tok _)⟩
        rw [e]
        show (List.flatten _).toArray.size ≤ 2 ^ 24
        rw [List.size_toArray, List.length_flatten, List.map_replicate, List.sum_replicate_nat]
        have : a.cps.toList.length = a.length := Array.length_toList
        rw [this, Nat.mul_comm]; omega
theorem call_repr_int : CallR X (.builtin "repr") (fun xs H Q => ∃ i, xs = [.int i] ∧ i.natAbs.log2 < 1920 ∧ Q (.str (toString i)) H) := by
  intro pins s σ H xs us Q I r h
  obtain ⟨i, rfl, hz, q⟩ := h
  obtain ⟨u, rfl, t, rfl⟩ := vals1 r
  exact PySem.P.repr_of_int hz ⟨.str _, H, I.tok _, ⟨_, rfl⟩, q⟩
theorem call_repr_bool : CallR X (.builtin "repr") (fun xs H Q => ∃ b, xs = [.bl b] ∧ Q (.str (Str.ofString (if b then "True" else "False"))) H) := by
  intro pins s σ H xs us Q I r h
  obtain ⟨b, rfl, q⟩ := h
  obtain ⟨u, rfl, rx⟩ := vals1 r
  cases rx
  cases b
  · exact PySem.P.repr_of_bool ⟨.str _, H, I.tok _, ⟨_, rfl⟩, q⟩
  · exact PySem.P.repr_of_bool ⟨.str _, H, I.tok _, ⟨_, rfl⟩, q⟩
theorem call_repr_str : CallR X (.builtin "repr") (fun xs H Q => ∃ x, xs = [.str x] ∧ (reprText x).length ≤ sizeLine ∧ Q (.str (reprText x)) H) := by
  intro pins s σ H xs us Q I r h
  obtain ⟨x, rfl, hz, q⟩ := h
  obtain ⟨u, rfl, t, rfl⟩ := vals1 r
  exact PySem.P.repr_of_str (h := ⟨.str _, H, I.tok _, ⟨_, rfl⟩, q⟩) (hsz := hz)
theorem call_repr_none : CallR X (.builtin "repr") (fun xs H Q => xs = [.non] ∧ Q (.str "None") H) := by
  intro pins s σ H xs us Q I r h
  obtain ⟨rfl, q⟩ := h
  obtain ⟨u, rfl, rx⟩ := vals1 r
  cases rx
  exact PySem.P.repr_of_none ⟨.str _, H, I.tok _, ⟨_, rfl⟩, q⟩
/-- repr of data -/
theorem call_repr (hg : X.A.guards = some []) (hu : X.A.units + 66 < cLine) : CallR X (.builtin "repr") (fun xs H Q => ∃ a d, xs = [.ref a] ∧ Dp X.K H (.ref a) d ∧ SeqAt.shaped d = true ∧ d.showable = true ∧ d.shown.length ≤ sizeLine ∧ Q (.str d.shown) H) := by
  intro pins s σ H xs us Q I r h
  obtain ⟨a, d, rfl, hd, sh, show_, hz, q⟩ := h
  obtain ⟨u, rfl, rx⟩ := vals1 r
  obtain ⟨as, r1⟩ := Dp.reads I d _ u hd rx
  cases rx
  have dep := SeqAt.depth_of_shaped sh
  exact repr_of_reads' r1 show_ (PyData.noDict_hsm (PyData.hasDict_of_canLay d (SeqAt.canLay_of_shaped sh))) hg (by omega) (fun _ _ e => e) (fun h' u tk hk => ⟨.str _, H, I.kept hk, ⟨u, rfl⟩, q⟩) hz
end
end Py

set_option Elab.async false
set_option linter.all false
set_option maxRecDepth 100000
set_option maxHeartbeats 4000000
/-! PySound2: values by values: operators, comparisons, subscripts, built-ins. -/
namespace Py
open PySem PySem.Spec PyProof.Rows L2

/-! ### readings of the layer from readings of ours -/
def LQ (M : Mo) (m : List Addr) (H : Hp) (Q : VK) : KQ := fun v h' => ∀ (m' : List Addr) (H' : Hp) (w : V), Ex m m' → Kp M.K H H' → RH M H' m' h' → RV M.K H' m' v w → Q w H'
def LA (M : Mo) (m : List Addr) (H : Hp) (Q : List V → Hp → Prop) : List PV → PH → Prop := fun v h' => ∀ (m' : List Addr) (H' : Hp) (w : List V), Ex m m' → Kp M.K H H' → RH M H' m' h' → RVs M.K H' m' v w → Q w H'
def LB (M : Mo) {α : Type} (m : List Addr) (H : Hp) (Q : α → Hp → Prop) : α → PH → Prop := fun b h' => ∀ (m' : List Addr) (H' : Hp), Ex m m' → Kp M.K H H' → RH M H' m' h' → Q b H'
/-- exceptions -/
def RX (M : Mo) (H : Hp) (m : List Addr) (x : XV) (cls : Value) (d : Option Addr) : Prop := cls = .ref (M.ca x.c)
def LX (M : Mo) (W : WX) (σ : L2.St) (m : List Addr) (H : Hp) : KX := fun x h' => ∀ (m' : List Addr) (H' : Hp) (cls : Value) (d : Option Addr), Ex m m' → Kp M.K H H' → RH M H' m' h' → RX M H' m' x cls d → W cls d σ H'
section
variable {M : Mo} {m m1 : List Addr} {H H1 : Hp}
theorem LQ.mono {Q : VK} (e : Ex m m1) (k : Kp M.K H H1) : ∀ v h, LQ M m H Q v h → LQ M m1 H1 Q v h := fun v h q m' H' w e' k' r rv => q m' H' w (e.trans e') (k.trans k') r rv
theorem LA.mono {Q : List V → Hp → Prop} (e : Ex m m1) (k : Kp M.K H H1) : ∀ v h, LA M m H Q v h → LA M m1 H1 Q v h := fun v h q m' H' w e' k' r rv => q m' H' w (e.trans e') (k.trans k') r rv
theorem LB.mono {α : Type} {Q : α → Hp → Prop} (e : Ex m m1) (k : Kp M.K H H1) : ∀ v h, LB M m H Q v h → LB M m1 H1 Q v h := fun v h q m' H' e' k' r => q m' H' (e.trans e') (k.trans k') r
theorem LX.mono {W : WX} {σ : L2.St} (e : Ex m m1) (k : Kp M.K H H1) : ∀ v h, LX M W σ m H v h → LX M W σ m1 H1 v h := fun v h q m' H' c d e' k' r rx => q m' H' c d (e.trans e') (k.trans k') r rx
theorem LQ.at {Q : VK} {v : PV} {h : PH} {w : V} (q : LQ M m H Q v h) (r : RH M H m h) (rv : RV M.K H m v w) : Q w H := q m H w (Ex.refl m) (Kp.refl _ H) r rv
theorem LB.at {α : Type} {Q : α → Hp → Prop} {v : α} {h : PH} (q : LB M m H Q v h) (r : RH M H m h) : Q v H := q m H (Ex.refl m) (Kp.refl _ H) r
/-- a new object, handed on -/
theorem LQ.new {Q : VK} {h : PH} {o : PO} {u : HO} (q : LQ M m H Q (.ref h.length) (h ++ [o])) (r : RH M H m h) (nf : isFrl o = false) (ho : ∀ p, H p = none → RO M (upd H p u) (m ++ [p]) o p) : ∀ p, H p = none → Q (.ref p) (upd H p u) := fun p hp => by
  refine q (m ++ [p]) (upd H p u) (.ref p) (Ex.app m p) (Kp.upd_new hp) (r.new hp (ho p hp) nf) ⟨p, ?_, rfl⟩
  rw [← r.len]; simp
end

/-! ### lists, data -/
theorem lstOf_get {M : Mo} {H : Hp} {m : List Addr} {h : PH} {v : PV} {w : V} {xs : List PV} (r : RH M H m h) (rv : RV M.K H m v w) (e : lstOf h v = some xs) : ∃ p vs, w = .ref p ∧ SqL M.K H p vs ∧ RVs M.K H m xs vs := by
  unfold lstOf at e
  split at e
  · rename_i a
    obtain ⟨p, e1, rfl⟩ := rv
    split at e
    · rename_i ys e2
      cases e
      obtain ⟨vs, a1, a2⟩ := r.obj _ _ _ e2 e1
      exact ⟨p, vs, rfl, .inl (.inl a1), a2⟩
    · rename_i ys e2
      cases e
      obtain ⟨vs, a1, a2⟩ := r.obj _ _ _ e2 e1
      refine ⟨p, vs, rfl, ?_, a2⟩
      rcases a1 with ⟨o, a1⟩ | a1
      · exact .inl (.inr ⟨o, a1⟩)
      · exact .inr a1
    · cases e
  · cases e
theorem lst_get {M : Mo} {H : Hp} {m : List Addr} {h : PH} {a : Nat} {w : V} {xs : List PV} (r : RH M H m h) (rv : RV M.K H m (.ref a) w) (e : h[a]? = some (.lst xs)) : ∃ p vs, w = .ref p ∧ m[a]? = some p ∧ H p = some (.lst vs) ∧ RVs M.K H m xs vs := by
  obtain ⟨p, e1, rfl⟩ := rv
  obtain ⟨vs, a1, a2⟩ := r.obj _ _ _ e e1
  exact ⟨p, vs, rfl, e1, a1, a2⟩
theorem seqOf_get {M : Mo} {H : Hp} {m : List Addr} {h : PH} {v : PV} {w : V} {xs : List PV} (r : RH M H m h) (rv : RV M.K H m v w) (e : seqOf h v = some xs) : ∃ p vs, w = .ref p ∧ (SqL M.K H p vs ∨ SqT M.K H p vs) ∧ RVs M.K H m xs vs := by
  unfold seqOf at e
  split at e
  · cases e
    obtain ⟨p, vs, e1, e2, e3⟩ := rv
    exact ⟨p, vs, e1, .inr e2, e3⟩
  · obtain ⟨p, vs, a, b, c⟩ := lstOf_get r rv e
    exact ⟨p, vs, a, .inl b, c⟩
mutual
theorem Dat.dp {M : Mo} {H : Hp} {m : List Addr} {h : PH} (r : RH M H m h) : ∀ (d : PyData) (v : PV) (w : V), Dat h d v → RV M.K H m v w → Dp M.K H w d
  | .none, v, w, e, rv => by cases (show v = .non from e); cases (show w = .non from rv); exact .non
  | .bool b, v, w, e, rv => by cases (show v = .bl b from e); cases (show w = .bl b from rv); exact .bl b
  | .int i, v, w, e, rv => by cases (show v = .int i from e); cases (show w = .int i from rv); exact .int i
  | .str s, v, w, e, rv => by cases (show v = .str s from e); cases (show w = .str s from rv); exact .str s
  | .tuple ds, v, w, e, rv => by
    obtain ⟨xs, rfl, e2⟩ := e
    obtain ⟨p, vs, rfl, e3, e4⟩ := rv
    exact .tup e3 (Dats.dp r ds xs vs e2 e4)
  | .list ds, v, w, e, rv => by
    obtain ⟨xs, e1, e2⟩ := e
    obtain ⟨p, vs, rfl, e3, e4⟩ := lstOf_get r rv e1
    exact .lst e3 (Dats.dp r ds xs vs e2 e4)
  | .dict _, v, w, e, rv => e.elim
theorem Dats.dp {M : Mo} {H : Hp} {m : List Addr} {h : PH} (r : RH M H m h) : ∀ (d : List PyData) (v : List PV) (w : List V), Dats h d v → RVs M.K H m v w → DpAll M.K H w d
  | [], v, w, e, rv => by cases (show v = [] from e); cases (show w = [] from rv); exact .nil
  | d :: ds, v, w, e, rv => by
    obtain ⟨y, ys, rfl, e1, e2⟩ := e
    obtain ⟨z, zs, rfl, e3, e4⟩ := rv
    exact .cons (Dat.dp r d y z e1 e3) (Dats.dp r ds ys zs e2 e4)
end
theorem RVs.rep {K : PySem.W.Frag} {H : Hp} {m : List Addr} {xs : List PV} {vs : List V} (h : RVs K H m xs vs) : ∀ n : Nat, RVs K H m (List.replicate n xs).flatten (List.replicate n vs).flatten
  | 0 => rfl
  | n + 1 => by rw [List.replicate_succ, List.replicate_succ, List.flatten_cons, List.flatten_cons]; exact h.app (RVs.rep h n)
theorem RV.isN {K : PySem.W.Frag} {H : Hp} {m : List Addr} {a : PV} {x : V} (ra : RV K H m a x) : isNonB a = decide (x = .non) := by
  cases a with
  | non => cases (show x = .non from ra); rfl
  | bl _ => cases (show x = .bl _ from ra); rfl
  | int _ => cases (show x = .int _ from ra); rfl
  | str _ => cases (show x = .str _ from ra); rfl
  | tup _ => obtain ⟨p, vs, rfl, _⟩ := ra; rfl
  | ref _ => obtain ⟨p, _, rfl⟩ := ra; rfl
theorem atI_eq {α : Type} (xs : List α) (i : Int) : L2.atI xs i = atI xs i := rfl
theorem RVs.atI {K : PySem.W.Frag} {H : Hp} {m : List Addr} {xs : List PV} {vs : List V} {i : Int} {x : PV} (h : RVs K H m xs vs) (e : Py.atI xs i = some x) : ∃ v, L2.atI vs i = some v ∧ RV K H m x v := by
  unfold Py.atI at e
  rw [h.len] at e
  obtain ⟨j, e1, e2⟩ := Option.bind_eq_some_iff.mp e
  obtain ⟨v, e3, e4⟩ := h.get e2
  refine ⟨v, ?_, e4⟩
  show (L2.ixN vs.length i).bind _ = _
  rw [show L2.ixN vs.length i = Py.ixN vs.length i from rfl, e1]
  exact e3
theorem RVs.cut {K : PySem.W.Frag} {H : Hp} {m : List Addr} {xs : List PV} {vs : List V} (lo hi : Option Int) (h : RVs K H m xs vs) : RVs K H m (Py.cut xs lo hi) (L2.cutV vs lo hi) := by
  unfold Py.cut L2.cutV
  have e : ∀ n d o, HT.sIx n d o = Py.sIx n d o := fun n d o => by cases o <;> rfl
  rw [h.len, e, e]
  exact RVs.take _ (RVs.drop _ h)
theorem cut_whole {α : Type} (xs : List α) (lo hi : Option Int) (h1 : sIx xs.length 0 lo = 0) (h2 : sIx xs.length xs.length hi = xs.length) : cut xs lo hi = xs := by
  unfold cut
  rw [h1, h2]
  simp

/-! ### operators -/
def bopOf : BO → Operator
  | .add => .Add | .sub => .Sub | .mul => .Mult | .fdiv => .FloorDiv | .mod => .Mod | .pow => .Pow
def copOf : CO → CmpOp
  | .eq => .Eq | .ne => .NotEq | .lt => .Lt | .le => .LtE | .gt => .Gt | .ge => .GtE | .inn => .In | .nin => .NotIn | .isN => .Is | .notN => .IsNot | .inD => .In | .ninD => .NotIn | .inX => .In | .ninX => .NotIn
def r2 (M : Mo) (R : PV → PV → PH → KQ → Prop) : R2 := fun x y H Q => ∃ m h a b, RH M H m h ∧ RV M.K H m a x ∧ RV M.K H m b y ∧ R a b h (LQ M m H Q)
theorem op_fdivG {X : Cx} : OpR X (binaryOp .FloorDiv) (rI (fun _ j => j ≠ 0 ∧ j.natAbs.log2 < 9000) fun i j => .int (i.fdiv j)) := opI fun i j _ _ _ _ _ hc q => floordiv_int hc.1 q (.inl (PyProof.noPylong_of_log2 hc.2))
section
variable {M : Mo} {X : Cx}
theorem sB (hK : X.K = M.K) : ∀ (o : BO), OpR X (binaryOp (bopOf o)) (r2 M (binV o)) := by
  intro o pins s σ H x y v u Q I rx ry h
  obtain ⟨m, hh, a, b, rh, ra, rb, q⟩ := h
  unfold binV at q
  split at q
  · cases (show x = .int _ from ra); cases (show y = .int _ from rb)
    exact op_add pins s σ H _ _ v u Q I rx ry ⟨_, _, rfl, rfl, q.at rh rfl⟩
  · cases (show x = .str _ from ra); cases (show y = .str _ from rb)
    exact op_add_str pins s σ H _ _ v u Q I rx ry ⟨_, _, rfl, rfl, q.1, q.2.at rh rfl⟩
  · rename_i xs ys
    obtain ⟨p, vs, rfl, e1, e2⟩ := ra
    obtain ⟨p', ws, rfl, e3, e4⟩ := rb
    rw [← hK] at e1 e3
    have hl : vs.length + ws.length ≤ sizeLine := by rw [← e2.len, ← e4.len]; exact q.1
    refine op_catA pins s σ H _ _ v u Q I rx ry ⟨p, p', vs, ws, rfl, rfl, e1, e3, hl, fun hn => ?_, fun hn hn2 => ?_, fun hn hn2 p2 hp2 => ?_⟩
    · have : xs = [] := by have := e2.len; rw [hn] at this; simpa using this
      subst this
      rw [hK] at e3
      exact q.2.at rh ⟨p', ws, rfl, e3, e4⟩
    · have : ys = [] := by have := e4.len; rw [hn2] at this; simpa using this
      subst this
      rw [hK] at e1
      refine q.2.at rh ?_
      rw [List.append_nil]
      exact ⟨p, vs, rfl, e1, e2⟩
    · refine q.2 m (upd H p2 (.tup (vs ++ ws))) _ (Ex.refl m) (Kp.upd_new hp2) ?_ ⟨p2, vs ++ ws, rfl, .inl (.inl upd_same), (e2.app e4).mono (Kp.upd_new hp2) (Ex.refl m) _ _⟩
      exact ⟨rh.len, fun c o q' e1 e2 => (rh.obj c o q' e1 e2).mono (Kp.upd_new hp2) (Ex.refl m) fun u' e => (upd_ne (ne_of_none e hp2)).trans e, rh.inj⟩
  · obtain ⟨xs, ys, e1, e2, e3, q⟩ := q
    obtain ⟨p, vs, rfl, _, e4, e5⟩ := lst_get rh ra e1
    obtain ⟨p', ws, rfl, _, e6, e7⟩ := lst_get rh rb e2
    refine op_cat pins s σ H _ _ v u Q I rx ry ⟨p, p', vs, ws, rfl, rfl, e4, e6, by rw [← e5.len, ← e7.len]; exact e3, ?_⟩
    exact q.new rh rfl fun p2 hp2 => ⟨vs ++ ws, upd_same, (e5.app e7).mono (Kp.upd_new hp2) (Ex.app m p2) _ _⟩
  · cases (show x = .int _ from ra); cases (show y = .int _ from rb)
    exact op_sub pins s σ H _ _ v u Q I rx ry ⟨_, _, rfl, rfl, q.at rh rfl⟩
  · cases (show x = .int _ from ra); cases (show y = .int _ from rb)
    exact op_mul pins s σ H _ _ v u Q I rx ry ⟨_, _, rfl, rfl, q.1, q.2.at rh rfl⟩
  · obtain ⟨⟨n1, n2, n3, n4⟩, q⟩ := q
    cases (show x = .str _ from ra); cases (show y = .int _ from rb)
    exact op_mulStr pins s σ H _ _ v u Q I rx ry ⟨_, _, rfl, rfl, n1, n2, n3, n4, q.at rh rfl⟩
  · obtain ⟨⟨n1, n2, n3, n4⟩, q⟩ := q
    obtain ⟨p, vs, rfl, e1, e2⟩ := ra
    cases (show y = .int _ from rb)
    have el := e2.len
    rename_i xs k
    refine op_mulT pins s σ H _ _ v u Q I rx ry ⟨p, k, vs, rfl, rfl, by rw [hK]; exact e1, fun z => n1 (by rw [z] at el; exact List.eq_nil_of_length_eq_zero el), n2, n3, by rw [← el]; exact n4, fun e => ?_, fun e p2 hp2 => ?_, fun e p2 hp2 => ?_⟩
    · subst e
      refine q.at rh ?_
      have ez : (List.replicate (1 : Int).toNat xs).flatten = xs := by
        show [xs].flatten = xs
        simp
      rw [ez]
      exact ⟨p, vs, rfl, e1, e2⟩
    · have ez : (List.replicate k.toNat xs).flatten = [] := by
        rw [show k.toNat = 0 by omega]; rfl
      rw [ez] at q
      refine q m (upd H p2 (.tup [])) _ (Ex.refl m) (Kp.upd_new hp2) ?_ ⟨p2, [], rfl, .inl (.inl upd_same), rfl⟩
      exact ⟨rh.len, fun c o q' e1 e2 => (rh.obj c o q' e1 e2).mono (Kp.upd_new hp2) (Ex.refl m) fun u' e => (upd_ne (ne_of_none e hp2)).trans e, rh.inj⟩
    · refine q m (upd H p2 (.tup (List.replicate k.toNat vs).flatten)) _ (Ex.refl m) (Kp.upd_new hp2) ?_ ⟨p2, _, rfl, .inl (.inl upd_same), (e2.rep _).mono (Kp.upd_new hp2) (Ex.refl m) _ _⟩
      exact ⟨rh.len, fun c o q' e1 e2 => (rh.obj c o q' e1 e2).mono (Kp.upd_new hp2) (Ex.refl m) fun u' e => (upd_ne (ne_of_none e hp2)).trans e, rh.inj⟩
  · obtain ⟨xs, e1, e2, e3, e4, q⟩ := q
    obtain ⟨p, vs, rfl, _, e5, e6⟩ := lst_get rh ra e1
    cases (show y = .int _ from rb)
    refine op_rep pins s σ H _ _ v u Q I rx ry ⟨p, _, vs, rfl, rfl, e5, e2, e3, by rw [← e6.len]; exact e4, ?_⟩
    refine q.new rh rfl fun p2 hp2 => ⟨_, upd_same, ?_⟩
    refine RVs.mono (Kp.upd_new hp2) (Ex.app m p2) _ _ ?_
    exact e6.rep _
  · cases (show x = .int _ from ra); cases (show y = .int _ from rb)
    exact op_fdivG pins s σ H _ _ v u Q I rx ry ⟨_, _, rfl, rfl, ⟨q.1, q.2.1⟩, q.2.2.at rh rfl⟩
  · cases (show x = .int _ from ra); cases (show y = .int _ from rb)
    exact op_modN pins s σ H _ _ v u Q I rx ry ⟨_, _, rfl, rfl, q.1, q.2.at rh rfl⟩
  · cases (show x = .int _ from ra); cases (show y = .int _ from rb)
    exact op_pow pins s σ H _ _ v u Q I rx ry ⟨_, _, rfl, rfl, q.1, q.2.at rh rfl⟩
  · exact q.elim
theorem sA : ∀ (o : BO), OpR X (inplaceOp (bopOf o)) (r2 M (augV o)) := by
  intro o pins s σ H x y v u Q I rx ry h
  obtain ⟨m, hh, a, b, rh, ra, rb, q⟩ := h
  unfold augV at q
  split at q
  · cases (show x = .int _ from ra); cases (show y = .int _ from rb)
    exact iop_add pins s σ H _ _ v u Q I rx ry ⟨_, _, rfl, rfl, q.at rh rfl⟩
  · cases (show x = .str _ from ra); cases (show y = .str _ from rb)
    exact iop_add_str pins s σ H _ _ v u Q I rx ry ⟨_, _, rfl, rfl, q.1, q.2.at rh rfl⟩
  · cases (show x = .int _ from ra); cases (show y = .int _ from rb)
    exact iop_sub pins s σ H _ _ v u Q I rx ry ⟨_, _, rfl, rfl, q.at rh rfl⟩
  · exact q.elim
/-- a comparison -/
def rC (M : Mo) (o : CO) : R2 := fun x y H Q => ∃ m h a b, RH M H m h ∧ RV M.K H m a x ∧ RV M.K H m b y ∧ cmpV o a b h (LB M m H fun r H' => Q (.bl r) H')
theorem flP_of {K : PySem.W.Frag} {H : Hp} {m : List Addr} {a : PV} {x : V} (f : flP a = true) (r : RV K H m a x) : flatV x = true := by
  cases a <;> first | exact absurd f Bool.false_ne_true | skip
  · cases (show x = .non from r); rfl
  · cases (show x = .bl _ from r); rfl
  · cases (show x = .int _ from r); rfl
  · cases (show x = .str _ from r); rfl
theorem flPs_of {K : PySem.W.Frag} {H : Hp} {m : List Addr} : ∀ {xs : List PV} {vs : List V}, xs.all flP = true → RVs K H m xs vs → vs.all flatV = true
  | [], vs, f, r => by cases (show vs = [] from r); rfl
  | x :: xs, vs, f, r => by
    obtain ⟨v, w, rfl, r1, r2⟩ := r
    rw [List.all_cons, Bool.and_eq_true] at f ⊢
    exact ⟨flP_of f.1 r1, flPs_of f.2 r2⟩
theorem eqP_of {K : PySem.W.Frag} {H : Hp} {m : List Addr} {a b : PV} {x y : V} (fa : flP a = true) (fb : flP b = true) (ra : RV K H m a x) (rb : RV K H m b y) : eqV x y = eqP a b := by
  cases a <;> first | exact absurd fa Bool.false_ne_true | skip
  all_goals (cases b <;> first | exact absurd fb Bool.false_ne_true | skip)
  all_goals (first | cases (show x = .non from ra) | cases (show x = .bl _ from ra) | cases (show x = .int _ from ra) | cases (show x = .str _ from ra))
  all_goals (first | cases (show y = .non from rb) | cases (show y = .bl _ from rb) | cases (show y = .int _ from rb) | cases (show y = .str _ from rb))
  all_goals rfl
theorem inP_of {K : PySem.W.Frag} {H : Hp} {m : List Addr} {a : PV} {x : V} (fa : flP a = true) (ra : RV K H m a x) : ∀ {xs : List PV} {vs : List V}, xs.all flP = true → RVs K H m xs vs → inV x vs = xs.any fun z => eqP z a
  | [], vs, f, r => by cases (show vs = [] from r); rfl
  | y :: xs, vs, f, r => by
    obtain ⟨v, w, rfl, r1, r2⟩ := r
    rw [List.all_cons, Bool.and_eq_true] at f
    show (eqV v x || inV x w) = (eqP y a || xs.any fun z => eqP z a)
    rw [eqP_of f.1 fa r1 ra, inP_of fa ra f.2 r2]
theorem isRef_of {K : PySem.W.Frag} {H : Hp} {m : List Addr} {a : PV} {x : V} (n : notRef a = false) (r : RV K H m a x) : ∃ p, x = .ref p := by
  cases a with
  | tup xs => obtain ⟨p, vs, e, _⟩ := r; exact ⟨p, e⟩
  | ref a => obtain ⟨p, _, e⟩ := r; exact ⟨p, e⟩
  | non => cases n
  | bl b => cases n
  | int b => cases n
  | str b => cases n
theorem isB_of {K : PySem.W.Frag} {H : Hp} {m : List Addr} {a : PV} {x : V} {b : Bool} (n : notRef a = true) (r : RV K H m a x) : (∀ p, x ≠ .ref p) ∧ (∀ n, x ≠ .ty n) ∧ isBlB b a = decide (x = .bl b) := by
  cases a <;> first | exact absurd n Bool.false_ne_true | skip
  · cases (show x = .non from r); exact ⟨nofun, nofun, rfl⟩
  · cases (show x = .bl _ from r)
    rename_i c
    refine ⟨nofun, nofun, ?_⟩
    cases c <;> cases b <;> rfl
  · cases (show x = .int _ from r); exact ⟨nofun, nofun, rfl⟩
  · cases (show x = .str _ from r); exact ⟨nofun, nofun, rfl⟩
theorem plain_is {h : Heap} {a : Addr} {its : Array Value} (p : PlainL h a its) : h.IsList a its := by
  obtain ⟨o, n, ho, hc, _, hd⟩ := p
  exact ⟨o, ho, hc, n, hd⟩
def rEqL (K : PySem.W.Frag) (r : Bool) : R2 := fun x y H Q => ∃ a b xs ys, x = .ref a ∧ y = .ref b ∧ SqL K H a xs ∧ SqL K H b ys ∧ xs.length ≠ ys.length ∧ Q (.bl r) H
theorem op_eqL (hu : X.A.units < cLine) : OpR X (compareOp .Eq) (rEqL X.K false) := by
  intro pins s σ H x y v u Q I rx ry h
  obtain ⟨a, b, xs, ys, rfl, rfl, h1, h2, ne, q⟩ := h
  cases rx
  cases ry
  obtain ⟨its, rv, p, _⟩ := I.list h1
  obtain ⟨its2, rv2, p2, _⟩ := I.list h2
  have l1 := rv.length
  have l2 := rv2.length
  exact SeqAt.RcAt.lists_lengths (plain_is p) (plain_is p2) (by rw [bne_iff_ne, List.size_toArray, List.size_toArray, ← l1, ← l2]; exact ne) hu _ _ _ _ ⟨.bl _, H, I, rfl, q⟩
theorem op_neL (hu : X.A.units < cLine) : OpR X (compareOp .NotEq) (rEqL X.K true) := by
  intro pins s σ H x y v u Q I rx ry h
  obtain ⟨a, b, xs, ys, rfl, rfl, h1, h2, ne, q⟩ := h
  cases rx
  cases ry
  obtain ⟨its, rv, p, _⟩ := I.list h1
  obtain ⟨its2, rv2, p2, _⟩ := I.list h2
  have l1 := rv.length
  have l2 := rv2.length
  exact SeqAt.RcNeAt.lists_lengths (plain_is p) (plain_is p2) (by rw [bne_iff_ne, List.size_toArray, List.size_toArray, ← l1, ← l2]; exact ne) hu _ _ _ _ ⟨.bl _, H, I, rfl, q⟩
theorem lst_len {M : Mo} {H : Hp} {m : List Addr} {h : PH} {a : Nat} {x : V} {xs : List PV} (rh : RH M H m h) (rv : RV M.K H m (.ref a) x) (e : lstOf h (.ref a) = some xs) : ∃ p vs, x = .ref p ∧ SqL M.K H p vs ∧ vs.length = xs.length := by
  obtain ⟨p, vs, e1, e2, e3⟩ := lstOf_get rh rv e
  exact ⟨p, vs, e1, e2, e3.len.symm⟩
theorem dic_at {M : Mo} {H : Hp} {m : List Addr} {h : PH} {a : Nat} {p : Addr} {kvs : List (PV × PV)} (r : RH M H m h) (ep : m[a]? = some p) (e : dicAt h a = some kvs) : ∃ ks, Rd H p (.dK ks) ∧ RKs M.K H m kvs ks := by
  rcases dicAt_or e with e | e
  · obtain ⟨ks, e1, rk⟩ := r.obj _ _ _ e ep
    exact ⟨ks, .inl e1, rk⟩
  · obtain ⟨ks, ⟨o, e1⟩, rk⟩ := r.obj _ _ _ e ep
    exact ⟨ks, .inr ⟨o, e1⟩, rk⟩
theorem look_some {K : PySem.W.Frag} {H : Hp} {m : List Addr} {k : PV} {q : Key} (hk : keyV k = some q) {xs : List (PV × PV)} {ks : List (Key × V)} (h : RKs K H m xs ks) : (lookD k xs).isSome = (valV ks q).isSome := by
  have lk := look_of hk h
  cases e5 : lookD k xs <;> cases e6 : valV ks q <;> rw [e5, e6] at lk <;> first | exact lk.elim | rfl
def rInDic (M : Mo) (neg : Bool) : R2 := fun x y H Q => ∃ (a : Addr) (o : Option V), y = .ref a ∧ DGet H a x o ∧ Q (.bl (if neg then !o.isSome else o.isSome)) H
theorem op_inDic (hu : X.A.units + 1 < cLine) : OpR X (compareOp .In) (rInDic M false) := by
  intro pins s σ H x y v u Q I rx ry h
  obtain ⟨a, o, rfl, g, q⟩ := h
  cases ry
  exact d_in hu I g rx fun s' I' => ⟨.bl o.isSome, H, I', rfl, by simpa using q⟩
theorem op_ninDic (hu : X.A.units + 1 < cLine) : OpR X (compareOp .NotIn) (rInDic M true) := by
  intro pins s σ H x y v u Q I rx ry h
  obtain ⟨a, o, rfl, g, q⟩ := h
  cases ry
  exact d_notIn hu I g rx fun s' I' => ⟨.bl (!o.isSome), H, I', rfl, by simpa using q⟩
def rInTD (K : PySem.W.Frag) : R2 := fun x y H Q => ∃ d ds, Dp K H x d ∧ Dp K H y (.tuple ds) ∧ SeqAt.shaped d = true ∧ SeqAt.shaped (.tuple ds) = true ∧ Q (.bl (ds.any fun z => PyData.eqv z d)) H
def rNotInTD (K : PySem.W.Frag) : R2 := fun x y H Q => ∃ d ds, Dp K H x d ∧ Dp K H y (.tuple ds) ∧ SeqAt.shaped d = true ∧ SeqAt.shaped (.tuple ds) = true ∧ Q (.bl (!ds.any fun z => PyData.eqv z d)) H
theorem op_inTD (hu : X.A.units + 65 < cLine) : OpR X (compareOp .In) (rInTD X.K) := by
  intro pins s σ H x y v u Q I rx ry h
  obtain ⟨d, ds, hd, he, sd, se, q⟩ := h
  obtain ⟨as, r1⟩ := Dp.reads I d x v hd rx
  obtain ⟨bs, r2⟩ := Dp.reads I (.tuple ds) y u he ry
  exact SeqAt.in_tuple_reads r2 r1 (SeqAt.canLay_of_shaped se) (SeqAt.canLay_of_shaped sd) (room_in_shaped sd hu) ⟨.bl _, H, I, rfl, q⟩
theorem op_notInTD (hu : X.A.units + 65 < cLine) : OpR X (compareOp .NotIn) (rNotInTD X.K) := by
  intro pins s σ H x y v u Q I rx ry h
  obtain ⟨d, ds, hd, he, sd, se, q⟩ := h
  obtain ⟨as, r1⟩ := Dp.reads I d x v hd rx
  obtain ⟨bs, r2⟩ := Dp.reads I (.tuple ds) y u he ry
  exact SeqAt.notIn_tuple_reads r2 r1 (SeqAt.canLay_of_shaped se) (SeqAt.canLay_of_shaped sd) (room_in_shaped sd hu) ⟨.bl _, H, I, rfl, q⟩
theorem sC (hK : X.K = M.K) (hu : X.A.units + 66 < cLine) : ∀ (o : CO), OpR X (compareOp (copOf o)) (rC M o) := by
  intro o pins s σ H x y v u Q I rx ry h
  obtain ⟨m, hh, a, b, rh, ra, rb, q⟩ := h
  unfold cmpV at q
  split at q
  · cases (show x = .str _ from ra); cases (show y = .str _ from rb)
    rename_i a b
    refine op_eq pins s σ H _ _ v u Q I rx ry ⟨rfl, ?_⟩
    have e : decide (V.str a = V.str b) = decide (a = b) := by rw [Bool.eq_iff_iff, decide_eq_true_iff, decide_eq_true_iff]; exact V.str.injEq a b ▸ Iff.rfl
    rw [e]; exact q.at rh
  · cases (show x = .str _ from ra); cases (show y = .str _ from rb)
    rename_i a b
    refine op_ne pins s σ H _ _ v u Q I rx ry ⟨rfl, ?_⟩
    have e : decide (V.str a = V.str b) = decide (a = b) := by rw [Bool.eq_iff_iff, decide_eq_true_iff, decide_eq_true_iff]; exact V.str.injEq a b ▸ Iff.rfl
    rw [e]; exact q.at rh
  · obtain ⟨c, rfl, q⟩ := q
    cases (show x = .str _ from ra); cases (show y = .str _ from rb)
    exact op_in_sign pins s σ H _ _ v u Q I rx ry ⟨c, _, rfl, rfl, q.at rh⟩
  · obtain ⟨c, rfl, q⟩ := q
    cases (show x = .str _ from ra); cases (show y = .str _ from rb)
    exact op_notIn_sign pins s σ H _ _ v u Q I rx ry ⟨c, _, rfl, rfl, q.at rh⟩
  · obtain ⟨xs, e, f1, f2, q⟩ := q
    obtain ⟨p, vs, rfl, e1, e2⟩ := seqOf_get rh rb e
    refine op_in_seq pins s σ H _ _ v u Q I rx ry ⟨p, vs, rfl, by rw [hK]; exact e1, flP_of f1 ra, flPs_of f2 e2, ?_⟩
    rw [if_neg Bool.false_ne_true, inP_of f1 ra f2 e2]; exact q.at rh
  · obtain ⟨xs, e, f1, f2, q⟩ := q
    obtain ⟨p, vs, rfl, e1, e2⟩ := seqOf_get rh rb e
    refine op_notIn_seq pins s σ H _ _ v u Q I rx ry ⟨p, vs, rfl, by rw [hK]; exact e1, flP_of f1 ra, flPs_of f2 e2, ?_⟩
    rw [if_pos rfl, inP_of f1 ra f2 e2]; exact q.at rh
  · obtain ⟨hk, a, kvs, rfl, e, q⟩ := q
    obtain ⟨q0, hq, rfl⟩ := isK_of hk ra
    obtain ⟨p, ep, rfl⟩ := rb
    obtain ⟨ks, e4, rk⟩ := dic_at rh ep e
    refine op_inDic (M := M) (by omega) pins s σ H _ _ v u Q I rx ry ⟨p, _, rfl, .inl ⟨ks, q0, e4, rfl, rfl⟩, ?_⟩
    rw [if_neg Bool.false_ne_true, ← look_some hq rk]; exact q.at rh
  · obtain ⟨hk, a, kvs, rfl, e, q⟩ := q
    obtain ⟨q0, hq, rfl⟩ := isK_of hk ra
    obtain ⟨p, ep, rfl⟩ := rb
    obtain ⟨ks, e4, rk⟩ := dic_at rh ep e
    refine op_ninDic (M := M) (by omega) pins s σ H _ _ v u Q I rx ry ⟨p, _, rfl, .inl ⟨ks, q0, e4, rfl, rfl⟩, ?_⟩
    rw [if_pos rfl, ← look_some hq rk]; exact q.at rh
  · obtain ⟨d, ds, h1, h3, h4, h5, q⟩ := q
    refine op_inTD (by omega) pins s σ H _ _ v u Q I rx ry ⟨d, ds, ?_, ?_, h4, h5, q.at rh⟩
    · rw [hK]; exact Dat.dp rh _ _ _ h1 ra
    · rw [hK]; exact Dat.dp rh (.tuple ds) _ _ ⟨_, rfl, h3⟩ rb
  · obtain ⟨d, ds, xs, h1, h2, h3, h4, h5, q⟩ := q
    refine op_inD (by omega) pins s σ H _ _ v u Q I rx ry ⟨d, ds, ?_, ?_, h4, h5, q.at rh⟩
    · rw [hK]; exact Dat.dp rh _ _ _ h1 ra
    · rw [hK]; exact Dat.dp rh (.list ds) _ _ ⟨xs, h2, h3⟩ rb
  · obtain ⟨d, ds, h1, h3, h4, h5, q⟩ := q
    refine op_notInTD (by omega) pins s σ H _ _ v u Q I rx ry ⟨d, ds, ?_, ?_, h4, h5, q.at rh⟩
    · rw [hK]; exact Dat.dp rh _ _ _ h1 ra
    · rw [hK]; exact Dat.dp rh (.tuple ds) _ _ ⟨_, rfl, h3⟩ rb
  · obtain ⟨d, ds, xs, h1, h2, h3, h4, h5, q⟩ := q
    refine op_notInD (by omega) pins s σ H _ _ v u Q I rx ry ⟨d, ds, ?_, ?_, h4, h5, q.at rh⟩
    · rw [hK]; exact Dat.dp rh _ _ _ h1 ra
    · rw [hK]; exact Dat.dp rh (.list ds) _ _ ⟨xs, h2, h3⟩ rb
  · cases (show y = .bl _ from rb)
    obtain ⟨n1, n2, n3⟩ := isB_of q.1 ra
    refine op_isB pins s σ H _ _ v u Q I rx ry ⟨_, rfl, n1, n2, ?_⟩
    rw [← n3]; exact q.2.at rh
  · cases (show y = .bl _ from rb)
    obtain ⟨n1, n2, n3⟩ := isB_of q.1 ra
    refine op_isNB pins s σ H _ _ v u Q I rx ry ⟨_, rfl, n1, n2, ?_⟩
    rw [← n3]; exact q.2.at rh
  · rcases q with ⟨d, e, h1, h2, h3, h4, q⟩ | ⟨p1, p2, xs, ys, rfl, rfl, e1, e2, ne, q⟩
    case inr =>
      obtain ⟨a1, us, rfl, l1, r1⟩ := lst_len rh ra e1
      obtain ⟨a2, ws, rfl, l2, r2⟩ := lst_len rh rb e2
      refine op_eqL (by omega) pins s σ H _ _ v u Q I rx ry ⟨_, _, us, ws, rfl, rfl, by rw [hK]; exact l1, by rw [hK]; exact l2, by rw [r1, r2]; exact ne, q.at rh⟩
    refine op_eqD (by omega) pins s σ H _ _ v u Q I rx ry ⟨d, e, ?_, ?_, h3, h4, q.at rh⟩
    · rw [hK]; exact Dat.dp rh _ _ _ h1 ra
    · rw [hK]; exact Dat.dp rh _ _ _ h2 rb
  · rcases q with ⟨d, e, h1, h2, h3, h4, q⟩ | ⟨p1, p2, xs, ys, rfl, rfl, e1, e2, ne, q⟩
    case inr =>
      obtain ⟨a1, us, rfl, l1, r1⟩ := lst_len rh ra e1
      obtain ⟨a2, ws, rfl, l2, r2⟩ := lst_len rh rb e2
      refine op_neL (by omega) pins s σ H _ _ v u Q I rx ry ⟨_, _, us, ws, rfl, rfl, by rw [hK]; exact l1, by rw [hK]; exact l2, by rw [r1, r2]; exact ne, q.at rh⟩
    refine op_neD (by omega) pins s σ H _ _ v u Q I rx ry ⟨d, e, ?_, ?_, h3, h4, q.at rh⟩
    · rw [hK]; exact Dat.dp rh _ _ _ h1 ra
    · rw [hK]; exact Dat.dp rh _ _ _ h2 rb
  · cases (show x = .int _ from ra); cases (show y = .int _ from rb)
    exact op_lt pins s σ H _ _ v u Q I rx ry ⟨_, _, rfl, rfl, q.at rh⟩
  · cases (show x = .int _ from ra); cases (show y = .int _ from rb)
    exact op_le pins s σ H _ _ v u Q I rx ry ⟨_, _, rfl, rfl, q.at rh⟩
  · cases (show x = .int _ from ra); cases (show y = .int _ from rb)
    exact op_gt pins s σ H _ _ v u Q I rx ry ⟨_, _, rfl, rfl, q.at rh⟩
  · cases (show x = .int _ from ra); cases (show y = .int _ from rb)
    exact op_ge pins s σ H _ _ v u Q I rx ry ⟨_, _, rfl, rfl, q.at rh⟩
  · cases (show y = .non from rb)
    refine op_isN pins s σ H _ _ v u Q I rx ry ⟨rfl, ?_⟩
    rw [← ra.isN]; exact q.at rh
  · cases (show y = .non from rb)
    refine op_notN pins s σ H _ _ v u Q I rx ry ⟨rfl, ?_⟩
    rw [← ra.isN]; exact q.at rh
  · exact q.elim
theorem tail_anyG {X : Cx} {pins : List (Addr × Obj)} {σ : L2.St} {H : Hp} {s : Shared} {a : Addr} {y w : V} {u : Value} {value slice : Expr} {Q : VK} (hu : X.A.units + 1 < cLine) (I : L2.Inv X pins σ H s) (g : DGet H a y (some w)) (ry : RelV y u) (q : Q w H) (hs : subscripted slice false (.ref a) u = operate [.ref a, u] (getItem (.ref a) u)) :
    wpAny (model X.prog X.w) X.A (subscriptTail value slice (.ref a) u) (EP X pins σ Q) X.xe s := by
  unfold subscriptTail
  refine wpAny_bind ?_
  rw [getitemInPython_of_ne (dict_typeIs I g).not_modules]
  refine wpAny_bind (wpAny_specialOf (dict_typeIs I g) PySem.F.slot_dict_getitem.lookup ?_)
  have fin : wpAny (model X.prog X.w) X.A (subscripted slice false (.ref a) u) (fun r s₃ => wpAny (model X.prog X.w) X.A (letTemporaryGo value (.ref a) r >>= fun _ => pure r) (EP X pins σ Q) X.xe s₃) X.xe s := by
    rw [hs]
    exact wpAny_operating (d_getItem hu I g ry fun w' s3 I3 rw' => wpAny_bind (wpAny_letTemporaryGo (wpAny_pure ⟨w, H, I3, rw', q⟩)))
  first
    | exact wpAny_pure (wpAny_bind fin)
    | exact wpAny_bind (wpAny_pure (wpAny_bind fin))
    | exact wpAny_bind fin
    | exact wpAny_pure fin
theorem sIx_ (hK : X.K = M.K) (hu : X.A.units + 1 < cLine) : IxR X (r2 M idxV) := by
  intro value slice pins s σ H x y v u Q I rx ry h hs
  obtain ⟨m, hh, a, b, rh, ra, rb, q⟩ := h
  unfold idxV at q
  split at q
  · obtain ⟨z, e, q⟩ := q
    obtain ⟨p, vs, rfl, e1, e2⟩ := ra
    cases (show y = .int _ from rb)
    obtain ⟨w, e3, e4⟩ := e2.atI e
    exact ix_tup value slice pins s σ H _ _ v u Q I rx ry ⟨p, vs, _, w, rfl, rfl, by rw [hK]; exact e1, e3, q.at rh e4⟩ hs
  · obtain ⟨hl, c, e, q⟩ := q
    cases (show x = .str _ from ra); cases (show y = .int _ from rb)
    exact ix_str value slice pins s σ H _ _ v u Q I rx ry ⟨_, _, c, rfl, rfl, hl, e, q.at rh rfl⟩ hs
  · obtain ⟨xs, z, e0, e, q⟩ := q
    obtain ⟨p, vs, rfl, e1, e2⟩ := lstOf_get rh ra e0
    cases (show y = .int _ from rb)
    obtain ⟨w, e3, e4⟩ := e2.atI e
    exact ix_list value slice pins s σ H _ _ v u Q I rx ry ⟨p, vs, _, w, rfl, rfl, by rw [hK]; exact e1, e3, q.at rh e4⟩ hs
  · rename_i k
    obtain ⟨kvs, z, e0, e, q⟩ := q
    cases (show y = .str k from rb)
    obtain ⟨p, ep, rfl⟩ := ra
    obtain ⟨ks, e4, rk⟩ := dic_at rh ep e0
    cases rx
    have lk := look_of (k := .str k) (q := .inr k) rfl rk
    rw [e] at lk
    cases e6 : valV ks (.inr k) with
    | none => rw [e6] at lk; exact lk.elim
    | some w =>
      rw [e6] at lk
      have g : DGet H p (.str k) (some w) := by rw [← e6]; exact .inl ⟨ks, .inr k, e4, rfl, rfl⟩
      exact tail_anyG hu I g ry (q.at rh lk) hs
  · exact q.elim
theorem sDx_ (hK : X.K = M.K) (hu : X.A.units + 1 < cLine) : IxR X (r2 M dxiV) := by
  intro value slice pins s σ H x y v u Q I rx ry h hs
  obtain ⟨m, hh, a, b, rh, ra, rb, q⟩ := h
  unfold dxiV at q
  split at q
  · obtain ⟨hk, kvs, z, e0, e, q⟩ := q
    obtain ⟨q0, hq, rfl⟩ := isK_of hk rb
    obtain ⟨p, ep, rfl⟩ := ra
    obtain ⟨ks, e4, rk⟩ := dic_at rh ep e0
    cases rx
    have lk := look_of hq rk
    rw [e] at lk
    cases e6 : valV ks q0 with
    | none => rw [e6] at lk; exact lk.elim
    | some w =>
      rw [e6] at lk
      have g : DGet H p (kV q0) (some w) := by rw [← e6]; exact .inl ⟨ks, q0, e4, rfl, rfl⟩
      exact tail_anyG hu I g ry (q.at rh lk) hs
  · exact q.elim
def rS (M : Mo) : V → Option Int → Option Int → Hp → VK → Prop := fun x lo hi H Q => ∃ m h a, RH M H m h ∧ RV M.K H m a x ∧ slcV a lo hi h (LQ M m H Q)
theorem sSl (hK : X.K = M.K) : SlR X (rS M) := by
  intro pins s σ H x v vl vu lo hi sl Q I rx hs pl pu h
  obtain ⟨m, hh, a, rh, ra, q⟩ := h
  cases a with
  | tup xs =>
    have q : LQ M m H Q (.tup (Py.cut xs lo hi)) hh := q
    obtain ⟨p, vs, rfl, e1, e2⟩ := ra
    have el := e2.len
    have ee : ∀ n d o, HT.sIx n d o = Py.sIx n d o := fun n d o => by cases o <;> rfl
    refine sl_tupA pins s σ H _ v vl vu lo hi sl Q I rx hs pl pu ⟨p, vs, rfl, by rw [hK]; exact e1, fun hw => ?_, fun hw p2 hp2 => ?_⟩
    · refine q.at rh ?_
      rw [cut_whole xs lo hi (by rw [el, ← ee]; exact hw.1) (by rw [el, ← ee]; exact hw.2)]
      exact ⟨p, vs, rfl, e1, e2⟩
    · refine q m (upd H p2 (.tup (cutV vs lo hi))) _ (Ex.refl m) (Kp.upd_new hp2) ?_ ⟨p2, cutV vs lo hi, rfl, .inl (.inl upd_same), (e2.cut lo hi).mono (Kp.upd_new hp2) (Ex.refl m) _ _⟩
      exact ⟨rh.len, fun c o q' e1 e2 => (rh.obj c o q' e1 e2).mono (Kp.upd_new hp2) (Ex.refl m) fun u' e => (upd_ne (ne_of_none e hp2)).trans e, rh.inj⟩
  | ref a =>
    obtain ⟨xs, e0, q⟩ := (show ∃ xs, lstOf hh (.ref a) = some xs ∧ LQ M m H Q (.ref hh.length) (hh ++ [.lst (Py.cut xs lo hi)]) from q)
    obtain ⟨p, vs, rfl, e1, e2⟩ := lstOf_get rh ra e0
    refine sl_list pins s σ H _ v vl vu lo hi sl Q I rx hs pl pu ⟨p, vs, rfl, by rw [hK]; exact e1, ?_⟩
    exact q.new rh rfl fun p2 hp2 => ⟨_, upd_same, (e2.cut lo hi).mono (Kp.upd_new hp2) (Ex.app m p2) _ _⟩
  | str z =>
    obtain ⟨hz, q⟩ := (show z.length ≤ SZ ∧ LQ M m H Q (.str ⟨(Py.cut z.cps.toList lo hi).toArray⟩) hh from q)
    cases (show x = .str z from ra)
    have ee : ∀ n d o, HT.sIx n d o = Py.sIx n d o := fun n d o => by cases o <;> rfl
    have el : z.cps.toList.length = z.length := Array.length_toList
    have e : cutS z lo hi = ⟨(Py.cut z.cps.toList lo hi).toArray⟩ := by
      unfold cutS Py.cut
      rw [el, ee, ee]
    refine sl_str pins s σ H _ v vl vu lo hi sl Q I rx hs pl pu ⟨z, rfl, hz, ?_⟩
    rw [e]
    exact q.at rh rfl
  | _ => exact (show False from q).elim
end
/-- a tuple laid -/
theorem RH.tup {M : Mo} {H : Hp} {m : List Addr} {h : PH} {p : Addr} {u : HO} (r : RH M H m h) (hp : H p = none) : RH M (upd H p u) m h :=
  ⟨r.len, fun c o q' e1 e2 => (r.obj c o q' e1 e2).mono (Kp.upd_new hp) (Ex.refl m) fun u' e => (upd_ne (ne_of_none e hp)).trans e, r.inj⟩

/-! ### built-in functions -/
def rF (M : Mo) (f : BF) : List V → Hp → VK → Prop := fun ws H Q => ∃ m h vs, RH M H m h ∧ RVs M.K H m vs ws ∧ bfV f vs h (LQ M m H Q)
theorem RVs.one_of {K : PySem.W.Frag} {H : Hp} {m : List Addr} {x : PV} {ws : List V} (h : RVs K H m [x] ws) : ∃ w, ws = [w] ∧ RV K H m x w := by
  obtain ⟨w, r, rfl, a, b⟩ := h
  cases (show r = [] from b)
  exact ⟨w, rfl, a⟩
theorem RVs.two_of {K : PySem.W.Frag} {H : Hp} {m : List Addr} {x y : PV} {ws : List V} (h : RVs K H m [x, y] ws) : ∃ w z, ws = [w, z] ∧ RV K H m x w ∧ RV K H m y z := by
  obtain ⟨w, r, rfl, a, b⟩ := h
  obtain ⟨z, rfl, c⟩ := b.one_of
  exact ⟨w, z, rfl, a, c⟩
/-- a built-in type of a value -/
theorem tyN_of {M : Mo} {H : Hp} {m : List Addr} {h : PH} {v : PV} {w : V} {t : String} (r : RH M H m h) (rv : RV M.K H m v w) (e : tyN h v = some t) : TyX M.K H w (.type t) := by
  cases v with
  | non => cases e; cases (show w = .non from rv); exact .base .non
  | bl b => cases e; cases (show w = .bl b from rv); exact .base (.bl b)
  | int b => cases e; cases (show w = .int b from rv); exact .base (.int b)
  | str b => cases e; cases (show w = .str b from rv); exact .base (.str b)
  | tup xs =>
    cases e
    obtain ⟨p, vs, rfl, e1, e2⟩ := rv
    rcases e1 with (e1 | ⟨o, e1⟩) | ⟨o, its, n, e1, e3, _⟩
    · exact .base (.tup e1)
    · exact .fTuple e1
    · exact .kTuple e1 e3
  | ref a =>
    obtain ⟨p, e1, rfl⟩ := rv
    unfold tyN at e
    dsimp only at e
    split at e
    · rename_i xs e2
      cases e
      obtain ⟨vs, e3, _⟩ := r.obj _ _ _ e2 e1
      exact .base (.lst e3)
    · rename_i xs e2
      cases e
      obtain ⟨vs, e3, _⟩ := r.obj _ _ _ e2 e1
      rcases e3 with ⟨o, e3⟩ | ⟨o, its, n, e3, e4, _⟩
      · exact .base (.frz e3)
      · exact .kList e3 e4
    · rename_i xs e2
      cases e
      obtain ⟨vs, e3, _⟩ := r.obj _ _ _ e2 e1
      exact .base (.dK e3)
    · rename_i xs e2
      cases e
      obtain ⟨vs, ⟨o, e3⟩, _⟩ := r.obj _ _ _ e2 e1
      exact .fDict e3
    · cases e
theorem isB_kit {K : PySem.W.Frag} {T t : String} (hT : T = "int" ∨ T = "bool" ∨ T = "str" ∨ T = "list" ∨ T = "tuple") (ht : t = "NoneType" ∨ t = "bool" ∨ t = "int" ∨ t = "str" ∨ t = "tuple" ∨ t = "list" ∨ t = "dict") :
    PySem.W.kitOne K (.type t) (.type T) = some (isB T t) := by
  rcases hT with rfl | rfl | rfl | rfl | rfl <;> rcases ht with rfl | rfl | rfl | rfl | rfl | rfl | rfl <;> exact kit_ty (by decide +kernel)
theorem tyN_in {h : PH} {v : PV} {t : String} (e : tyN h v = some t) : t = "NoneType" ∨ t = "bool" ∨ t = "int" ∨ t = "str" ∨ t = "tuple" ∨ t = "list" ∨ t = "dict" := by
  unfold tyN at e
  split at e
  · cases e; simp
  · cases e; simp
  · cases e; simp
  · cases e; simp
  · cases e; simp
  · split at e
    · cases e; simp
    · cases e; simp
    · cases e; simp
    · cases e; simp
    · cases e
section
variable {M : Mo} {X : Cx}
/-- isinstance(x, T) by values -/
theorem sIsi (hK : X.K = M.K) {T : String} (hT : T = "int" ∨ T = "bool" ∨ T = "str" ∨ T = "list" ∨ T = "tuple") :
    CallR X (.builtin "isinstance") (fun ws H Q => ∃ m h v w t, RH M H m h ∧ ws = [w, .ty T] ∧ RV M.K H m v w ∧ tyN h v = some t ∧ Q (.bl (isB T t)) H) := by
  intro pins s σ H xs us Q I r h
  obtain ⟨m, h, v, w, t, rh, rfl, rv, e, q⟩ := h
  exact call_isi pins s σ H _ us Q I r ⟨w, .ty T, .type t, .type T, isB T t, rfl, .ty T, by rw [hK]; exact tyN_of rh rv e, isB_kit hT (tyN_in e), q⟩
theorem sLen (hK : X.K = M.K) : CallR X (.builtin "len") (rF M .len) := by
  intro pins s σ H xs us Q I r h
  obtain ⟨m, h, vs, rh, rv, q⟩ := h
  unfold bfV at q
  split at q
  · obtain ⟨w, rfl, rw_⟩ := rv.one_of
    cases (show w = .str _ from rw_)
    exact call_len_str pins s σ H _ us Q I r ⟨_, rfl, q.1, q.2.at rh rfl⟩
  · obtain ⟨ys, e, q⟩ := q
    obtain ⟨w, rfl, rw_⟩ := rv.one_of
    obtain ⟨p, zs, rfl, e1, e2⟩ := seqOf_get rh rw_ e
    refine call_len_seq pins s σ H _ us Q I r ⟨p, zs, rfl, by rw [hK]; exact e1, ?_⟩
    rw [← e2.len]
    exact q.at rh rfl
  all_goals first | exact q.elim | (rename_i h0; cases h0)
theorem sList1 (hK : X.K = M.K) : CallR X (.type "list") (rF M .list1) := by
  intro pins s σ H xs us Q I r h
  obtain ⟨m, h, vs, rh, rv, q⟩ := h
  match vs, q with
  | [v], q =>
    obtain ⟨ys, e, q⟩ := (show ∃ xs, seqOf h v = some xs ∧ LQ M m H Q (.ref h.length) (h ++ [.lst xs]) from q)
    obtain ⟨w, rfl, rw_⟩ := rv.one_of
    obtain ⟨p, zs, rfl, e1, e2⟩ := seqOf_get rh rw_ e
    refine call_list_of pins s σ H _ us Q I r ⟨p, zs, rfl, by rw [hK]; exact e1, ?_⟩
    exact q.new rh rfl fun p2 hp2 => ⟨_, upd_same, e2.mono (Kp.upd_new hp2) (Ex.app m p2) _ _⟩
  | [], q => exact (show False from q).elim
  | _ :: _ :: _, q => exact (show False from q).elim
theorem sTuple1 (hK : X.K = M.K) : CallR X (.type "tuple") (rF M .tuple1) := by
  intro pins s σ H xs us Q I r h
  obtain ⟨m, h, vs, rh, rv, q⟩ := h
  have main : ∀ (v : PV) (ys : List PV) (w : V), RV M.K H m v w → xs = [w] → (v = .tup ys ∨ lstOf h v = some ys) → LQ M m H Q (.tup ys) h → wpAny (model X.prog X.w) X.A (call (.type "tuple") us) (EP X pins σ Q) X.xe s := by
    intro v ys w rw_ hx e q
    subst hx
    rcases e with e | e
    · subst e
      obtain ⟨p, zs, rfl, e1, e2⟩ := rw_
      exact call_tuple_of pins s σ H _ us Q I r ⟨p, zs, rfl, .inr ⟨by rw [hK]; exact e1, q.at rh ⟨p, zs, rfl, e1, e2⟩⟩⟩
    · obtain ⟨p, zs, rfl, e1, e2⟩ := lstOf_get rh rw_ e
      refine call_tuple_of pins s σ H _ us Q I r ⟨p, zs, rfl, .inl ⟨by rw [hK]; exact e1, fun l hl => ?_⟩⟩
      exact q m (upd H l (.tup zs)) _ (Ex.refl m) (Kp.upd_new hl) (rh.tup hl) ⟨l, zs, rfl, .inl (.inl upd_same), e2.mono (Kp.upd_new hl) (Ex.refl m) _ _⟩
  match vs, q with
  | [.tup ys], q =>
    obtain ⟨w, hx, rw_⟩ := rv.one_of
    exact main _ ys w rw_ hx (.inl rfl) q
  | [.ref a], q =>
    obtain ⟨ys, e, q⟩ := (show ∃ xs, lstOf h (.ref a) = some xs ∧ LQ M m H Q (.tup xs) h from q)
    obtain ⟨w, hx, rw_⟩ := rv.one_of
    exact main _ ys w rw_ hx (.inr e) q
  | [.non], q => obtain ⟨ys, e, q⟩ := (show ∃ xs, lstOf h .non = some xs ∧ LQ M m H Q (.tup xs) h from q); cases e
  | [.bl b], q => obtain ⟨ys, e, q⟩ := (show ∃ xs, lstOf h (.bl b) = some xs ∧ LQ M m H Q (.tup xs) h from q); cases e
  | [.int b], q => obtain ⟨ys, e, q⟩ := (show ∃ xs, lstOf h (.int b) = some xs ∧ LQ M m H Q (.tup xs) h from q); cases e
  | [.str b], q => obtain ⟨ys, e, q⟩ := (show ∃ xs, lstOf h (.str b) = some xs ∧ LQ M m H Q (.tup xs) h from q); cases e
  | [], q => exact (show False from q).elim
  | a :: _ :: _, q => cases a <;> exact (show False from q).elim
theorem sMin2 (hc : X.calm = true) : CallR X (.builtin "min") (rF M .min2) := by
  intro pins s σ H xs us Q I r h
  obtain ⟨m, h, vs, rh, rv, q⟩ := h
  unfold bfV at q
  split at q
  all_goals first | (rename_i h0; cases h0; done) | skip
  · obtain ⟨w, z, rfl, r1, r2⟩ := rv.two_of
    cases (show w = .int _ from r1); cases (show z = .int _ from r2)
    exact call_min2 hc pins s σ H _ us Q I r ⟨_, _, rfl, q.at rh rfl⟩
  · exact q.elim
theorem sMax2 (hc : X.calm = true) : CallR X (.builtin "max") (rF M .max2) := by
  intro pins s σ H xs us Q I r h
  obtain ⟨m, h, vs, rh, rv, q⟩ := h
  unfold bfV at q
  split at q
  all_goals first | (rename_i h0; cases h0; done) | skip
  · obtain ⟨w, z, rfl, r1, r2⟩ := rv.two_of
    cases (show w = .int _ from r1); cases (show z = .int _ from r2)
    exact call_max2 hc pins s σ H _ us Q I r ⟨_, _, rfl, q.at rh rfl⟩
  · exact q.elim
theorem sAbs : CallR X (.builtin "abs") (rF M .abs) := by
  intro pins s σ H xs us Q I r h
  obtain ⟨m, h, vs, rh, rv, q⟩ := h
  unfold bfV at q
  split at q
  all_goals first | (rename_i h0; cases h0; done) | skip
  · obtain ⟨w, rfl, r1⟩ := rv.one_of
    cases (show w = .int _ from r1)
    exact call_abs pins s σ H _ us Q I r ⟨_, rfl, q.at rh rfl⟩
  · exact q.elim
theorem RVs.ints {K : PySem.W.Frag} {H : Hp} {m : List Addr} : ∀ {ns : List Int} {vs : List V}, RVs K H m (ns.map PV.int) vs → vs = ns.map V.int
  | [], vs, h => h
  | n :: ns, vs, h => by
    obtain ⟨v, r, rfl, a, b⟩ := h
    cases (show v = .int n from a)
    rw [RVs.ints b]; rfl
theorem RVs.bls {K : PySem.W.Frag} {H : Hp} {m : List Addr} : ∀ {ns : List Bool} {vs : List V}, RVs K H m (ns.map PV.bl) vs → vs = ns.map V.bl
  | [], vs, h => h
  | n :: ns, vs, h => by
    obtain ⟨v, r, rfl, a, b⟩ := h
    cases (show v = .bl n from a)
    rw [RVs.bls b]; rfl
theorem RVs.strs {K : PySem.W.Frag} {H : Hp} {m : List Addr} : ∀ {ns : List Str} {vs : List V}, RVs K H m (ns.map PV.str) vs → vs = ns.map V.str
  | [], vs, h => h
  | n :: ns, vs, h => by
    obtain ⟨v, r, rfl, a, b⟩ := h
    cases (show v = .str n from a)
    rw [RVs.strs b]; rfl
theorem RVs.of_strs {K : PySem.W.Frag} {H : Hp} {m : List Addr} : ∀ {ns : List Str}, RVs K H m (ns.map PV.str) (ns.map V.str)
  | [] => rfl
  | n :: ns => ⟨.str n, ns.map V.str, rfl, rfl, RVs.of_strs⟩
theorem sSumL (hK : X.K = M.K) (hc : X.calm = true) : CallR X (.builtin "sum") (rF M .sumL) := by
  intro pins s σ H xs us Q I r h
  obtain ⟨m, h, vs, rh, rv, q⟩ := h
  unfold bfV at q
  split at q
  all_goals first | (rename_i h0; cases h0; done) | skip
  · obtain ⟨ns, e, q⟩ := q
    obtain ⟨w, rfl, rw_⟩ := rv.one_of
    obtain ⟨p, zs, rfl, e1, e2⟩ := lstOf_get rh rw_ e
    cases e2.ints
    exact cr_sum hc pins s σ H _ us Q I r ⟨p, ns, rfl, by rw [hK]; exact e1, q.at rh rfl⟩
  · exact q.elim
theorem sMaxL (hK : X.K = M.K) (hc : X.calm = true) : CallR X (.builtin "max") (rF M .maxL) := by
  intro pins s σ H xs us Q I r h
  obtain ⟨m, h, vs, rh, rv, q⟩ := h
  unfold bfV at q
  split at q
  all_goals first | (rename_i h0; cases h0; done) | skip
  · obtain ⟨ns, mx, e, hm, hb, q⟩ := q
    obtain ⟨w, rfl, rw_⟩ := rv.one_of
    obtain ⟨p, zs, rfl, e1, e2⟩ := lstOf_get rh rw_ e
    cases e2.ints
    refine cr_max hc pins s σ H _ us Q I r ⟨p, ns, rfl, by rw [hK]; exact e1, List.length_pos_of_mem hm, fun m' hm' hb' => ?_⟩
    rw [Int.le_antisymm (hb m' hm') (hb' mx hm)]
    exact q.at rh rfl
  · exact q.elim
theorem sMinL (hK : X.K = M.K) (hc : X.calm = true) : CallR X (.builtin "min") (rF M .minL) := by
  intro pins s σ H xs us Q I r h
  obtain ⟨m, h, vs, rh, rv, q⟩ := h
  unfold bfV at q
  split at q
  all_goals first | (rename_i h0; cases h0; done) | skip
  · obtain ⟨ns, mx, e, hm, hb, q⟩ := q
    obtain ⟨w, rfl, rw_⟩ := rv.one_of
    obtain ⟨p, zs, rfl, e1, e2⟩ := lstOf_get rh rw_ e
    cases e2.ints
    refine cr_min hc pins s σ H _ us Q I r ⟨p, ns, rfl, by rw [hK]; exact e1, List.length_pos_of_mem hm, fun m' hm' hb' => ?_⟩
    rw [Int.le_antisymm (hb' mx hm) (hb m' hm')]
    exact q.at rh rfl
  · exact q.elim
theorem sAll1 (hK : X.K = M.K) (hc : X.calm = true) : CallR X (.builtin "all") (rF M .all1) := by
  intro pins s σ H xs us Q I r h
  obtain ⟨m, h, vs, rh, rv, q⟩ := h
  unfold bfV at q
  split at q
  all_goals first | (rename_i h0; cases h0; done) | skip
  · obtain ⟨ns, e, q⟩ := q
    obtain ⟨w, rfl, rw_⟩ := rv.one_of
    obtain ⟨p, zs, rfl, e1, e2⟩ := lstOf_get rh rw_ e
    cases e2.bls
    exact cr_all hc pins s σ H _ us Q I r ⟨p, ns, rfl, by rw [hK]; exact e1, q.at rh rfl⟩
  · exact q.elim
theorem prs_rel {K : PySem.W.Frag} {H : Hp} {m : List Addr} : ∀ (prs : List (PV × PV)) (zs : List V), (prs.all fun p => isK p.1) = true → RVs K H m (prs.map fun p => .tup [p.1, p.2]) zs →
    ∃ (ps : List Addr) (kvs : List (Key × V)), zs = ps.map V.ref ∧ Paired (fun p kv => SqT K H p [kV kv.1, kv.2]) ps kvs ∧ ∀ a b, RKs K H m a b → RKs K H m (mergeP a prs) (mergeK b kvs)
  | [], zs, _, h => by cases (show zs = [] from h); exact ⟨[], [], rfl, .nil, fun a b r => r⟩
  | (k, v) :: r, zs, ha, h => by
    obtain ⟨z, rest, rfl, h1, h2⟩ := h
    obtain ⟨hk, ha⟩ := Bool.and_eq_true_iff.mp (show (isK k && r.all fun p => isK p.1) = true from ha)
    obtain ⟨p, vs, rfl, s, x1, _, rfl, hx1, x2, _, rfl, hx2, e⟩ := h1
    cases (show _ = [] from e)
    obtain ⟨ps, kvs, rfl, hp, hm⟩ := prs_rel r rest ha h2
    cases k with
    | int i =>
      cases (show x1 = .int i from hx1)
      exact ⟨p :: ps, (.inl i, x2) :: kvs, rfl, .cons s hp, fun a b r => hm _ _ (put_of (k := .int i) (q := .inl i) rfl hx2 r)⟩
    | str i =>
      cases (show x1 = .str i from hx1)
      exact ⟨p :: ps, (.inr i, x2) :: kvs, rfl, .cons s hp, fun a b r => hm _ _ (put_of (k := .str i) (q := .inr i) rfl hx2 r)⟩
    | _ => cases hk
theorem sDict1 (hK : X.K = M.K) (hc : X.calm = true) : CallR X (.type "dict") (rF M .dict1) := by
  intro pins s σ H xs us Q I r h
  obtain ⟨m, h, vs, rh, rv, q⟩ := h
  match vs, q with
  | [v], q =>
    obtain ⟨prs, e, ek, q⟩ := (show ∃ prs : List (PV × PV), lstOf h v = some (prs.map fun p => .tup [p.1, p.2]) ∧ (prs.all fun p => isK p.1) = true ∧ LQ M m H Q (.ref h.length) (h ++ [.dic (mergeP [] prs)]) from q)
    obtain ⟨w, rfl, rw_⟩ := rv.one_of
    obtain ⟨p, zs, rfl, e1, e2⟩ := lstOf_get rh rw_ e
    obtain ⟨ps, kvs, rfl, hp, hm⟩ := prs_rel prs zs ek e2
    refine call_dictP hc pins s σ H _ us Q I r ⟨p, ps, kvs, rfl, by rw [hK]; exact e1, by rw [hK]; exact hp, ?_⟩
    exact q.new rh rfl fun p2 hp2 => ⟨_, upd_same, (hm [] [] rfl).mono (Kp.upd_new hp2) (Ex.app m p2)⟩
  | [], q => exact (show False from q).elim
  | _ :: _ :: _, q => exact (show False from q).elim
theorem RKs.keys {K : PySem.W.Frag} {H : Hp} {m : List Addr} : ∀ {xs : List (PV × PV)} {ks : List (Key × V)}, RKs K H m xs ks → RVs K H m (xs.map (·.1)) (ks.map fun kv => kV kv.1)
  | [], ks, h => by cases (show ks = [] from h); rfl
  | (x, y) :: r, ks, h => by
    obtain ⟨p, v, s, rfl, hx, rv, hr⟩ := h
    refine ⟨kV p, _, rfl, ?_, hr.keys⟩
    cases x <;> first | cases hx; done | skip
    · cases hx; rfl
    · cases hx; rfl
theorem RKs.strs {K : PySem.W.Frag} {H : Hp} {m : List Addr} : ∀ {xs : List (PV × PV)} {ks : List (Key × V)} {ss : List Str}, RKs K H m xs ks → xs.map (·.1) = ss.map PV.str → ks.map (·.1) = ss.map Sum.inr
  | [], ks, [], h, _ => by cases (show ks = [] from h); rfl
  | [], ks, _ :: _, h, e => by cases e
  | (x, y) :: r, ks, [], h, e => by cases e
  | (x, y) :: r, ks, s :: ss, h, e => by
    obtain ⟨p, v, t, rfl, hx, rv, hr⟩ := h
    simp only [List.map_cons, List.cons.injEq] at e ⊢
    obtain ⟨rfl, e⟩ := e
    cases hx
    exact ⟨rfl, hr.strs e⟩
theorem sListD (hK : X.K = M.K) (hc : X.calm = true) : CallR X (.type "list") (rF M .listD) := by
  intro pins s σ H xs us Q I r h
  obtain ⟨m, h, vs, rh, rv, q⟩ := h
  match vs, q with
  | [v], q =>
    obtain ⟨a, kvs, rfl, e, q⟩ := (show ∃ a kvs, v = .ref a ∧ dicAt h a = some kvs ∧ LQ M m H Q (.ref h.length) (h ++ [.lst (kvs.map (·.1))]) from q)
    obtain ⟨w, rfl, rw_⟩ := rv.one_of
    obtain ⟨p, ep, rfl⟩ := rw_
    obtain ⟨ks, e4, rk⟩ := dic_at rh ep e
    refine call_listD hc pins s σ H _ us Q I r ⟨p, ks, rfl, e4, ?_⟩
    exact q.new rh rfl fun p2 hp2 => ⟨_, upd_same, rk.keys.mono (Kp.upd_new hp2) (Ex.app m p2) _ _⟩
  | [], q => exact (show False from q).elim
  | _ :: _ :: _, q => exact (show False from q).elim
theorem sDictD (hK : X.K = M.K) : CallR X (.type "dict") (rF M .dictD) := by
  intro pins s σ H xs us Q I r h
  obtain ⟨m, h, vs, rh, rv, q⟩ := h
  match vs, q with
  | [v], q =>
    obtain ⟨a, kvs, rfl, e, q⟩ := (show ∃ a kvs, v = .ref a ∧ dicAt h a = some kvs ∧ LQ M m H Q (.ref h.length) (h ++ [.dic kvs]) from q)
    obtain ⟨w, rfl, rw_⟩ := rv.one_of
    obtain ⟨p, ep, rfl⟩ := rw_
    obtain ⟨ks, e4, rk⟩ := dic_at rh ep e
    refine call_dictD pins s σ H _ us Q I r ⟨p, ks, rfl, e4, ?_⟩
    exact q.new rh rfl fun p2 hp2 => ⟨_, upd_same, rk.mono (Kp.upd_new hp2) (Ex.app m p2) _ _⟩
  | [], q => exact (show False from q).elim
  | _ :: _ :: _, q => exact (show False from q).elim
theorem sSortD (hK : X.K = M.K) (hc : X.calm = true) : CallR X (.builtin "sorted") (rF M .sortD) := by
  intro pins s σ H xs us Q I r h
  obtain ⟨m, h, vs, rh, rv, q⟩ := h
  match vs, q with
  | [v], q =>
    obtain ⟨a, kvs, ss, rfl, e, es, h64, q⟩ := (show ∃ a kvs ks, v = .ref a ∧ dicAt h a = some kvs ∧ kvs.map (·.1) = ks.map PV.str ∧ ks.length < 64 ∧ ∀ ys, ys.Perm ks → PyProof.Rows.sortedS ys = true → LQ M m H Q (.ref h.length) (h ++ [.lst (ys.map PV.str)]) from q)
    obtain ⟨w, rfl, rw_⟩ := rv.one_of
    obtain ⟨p, ep, rfl⟩ := rw_
    obtain ⟨ks, e4, rk⟩ := dic_at rh ep e
    refine call_sortedD hc pins s σ H _ us Q I r ⟨p, ks, ss, rfl, e4, rk.strs es, h64, fun ys p2 hy hs hp2 => ?_⟩
    exact (q ys hy hs).new rh rfl (fun p2 hp2 => ⟨_, upd_same, RVs.of_strs⟩) p2 hp2
  | [], q => exact (show False from q).elim
  | _ :: _ :: _, q => exact (show False from q).elim
theorem sInt1 : CallR X (.type "int") (rF M .int1) := by
  intro pins s σ H xs us Q I r h
  obtain ⟨m, h, vs, rh, rv, q⟩ := h
  unfold bfV at q
  split at q
  all_goals first | (rename_i h0; cases h0; done) | skip
  · obtain ⟨w, rfl, r1⟩ := rv.one_of
    cases (show w = .int _ from r1)
    exact call_int1 pins s σ H _ us Q I r (.inl ⟨_, rfl, q.at rh rfl⟩)
  · obtain ⟨w, rfl, r1⟩ := rv.one_of
    cases (show w = .bl _ from r1)
    exact call_int1 pins s σ H _ us Q I r (.inr ⟨_, rfl, q.at rh rfl⟩)
  · exact q.elim
theorem sStr1 : CallR X (.type "str") (rF M .str1) := by
  intro pins s σ H xs us Q I r h
  obtain ⟨m, h, vs, rh, rv, q⟩ := h
  unfold bfV at q
  split at q
  all_goals first | (rename_i h0; cases h0; done) | skip
  · obtain ⟨w, rfl, r1⟩ := rv.one_of
    cases (show w = .int _ from r1)
    exact call_str_int pins s σ H _ us Q I r ⟨_, rfl, q.1, q.2.at rh rfl⟩
  · obtain ⟨w, rfl, r1⟩ := rv.one_of
    cases (show w = .str _ from r1)
    exact SkE.call_str_str pins s σ H _ us Q I r ⟨_, rfl, q.at rh rfl⟩
  · exact q.elim
theorem sRepr1 (hK : X.K = M.K) (hg : X.A.guards = some []) (hu : X.A.units + 66 < cLine) : CallR X (.builtin "repr") (rF M .repr1) := by
  intro pins s σ H xs us Q I r h
  obtain ⟨m, h, vs, rh, rv, q⟩ := h
  unfold bfV at q
  split at q
  all_goals first | (rename_i h0; cases h0; done) | skip
  · obtain ⟨w, rfl, r1⟩ := rv.one_of
    cases (show w = .bl _ from r1)
    exact call_repr_bool pins s σ H _ us Q I r ⟨_, rfl, q.at rh rfl⟩
  · obtain ⟨w, rfl, r1⟩ := rv.one_of
    cases (show w = .str _ from r1)
    exact call_repr_str pins s σ H _ us Q I r ⟨_, rfl, q.1, q.2.at rh rfl⟩
  · obtain ⟨w, rfl, r1⟩ := rv.one_of
    cases (show w = .int _ from r1)
    exact call_repr_int pins s σ H _ us Q I r ⟨_, rfl, q.1, q.2.at rh rfl⟩
  · obtain ⟨w, rfl, r1⟩ := rv.one_of
    cases (show w = .non from r1)
    exact call_repr_none pins s σ H _ us Q I r ⟨rfl, q.at rh rfl⟩
  · obtain ⟨d, n, q1, q2, q3, q4, q⟩ := q
    obtain ⟨w, rfl, r1⟩ := rv.one_of
    have dp := Dat.dp rh d _ w q1 r1
    obtain ⟨p, rfl⟩ := isRef_of n r1
    exact call_repr hg hu pins s σ H _ us Q I r ⟨p, d, rfl, by rw [hK]; exact dp, q2, q3, q4, q.at rh rfl⟩
  · exact q.elim
end
end Py

set_option Elab.async false
set_option linter.all false
set_option maxRecDepth 100000
set_option maxHeartbeats 4000000
/-! PyMore: dict of a tuple of pairs. -/
namespace Py
open PySem PySem.Spec PyProof.Rows L2
section
variable {M : Mo} {X : Cx}
theorem each_of {α β : Type} (d : β) (P : Nat → α → β → Prop) (L : List α) (h : ∀ (j : Nat) (q : α), L[j]? = some q → ∃ u, P j q u) : ∃ us : List β, us.length = L.length ∧ ∀ (j : Nat) (q : α), L[j]? = some q → ∃ u, us[j]? = some u ∧ P j q u := by
  classical
  refine ⟨(List.range L.length).map fun j => if z : ∃ u, ∃ q, L[j]? = some q ∧ P j q u then z.choose else d, by simp, fun j q e => ?_⟩
  have hj := (List.getElem?_eq_some_iff.mp e).1
  have z : ∃ u, ∃ q, L[j]? = some q ∧ P j q u := let ⟨u, hu⟩ := h j q e; ⟨u, q, e, hu⟩
  refine ⟨z.choose, ?_, ?_⟩
  · rw [List.getElem?_map, List.getElem?_range hj]
    show some (if z : ∃ u, ∃ q, L[j]? = some q ∧ P j q u then z.choose else d) = _
    rw [dif_pos z]
  · obtain ⟨q', e', hp⟩ := z.choose_spec
    rw [e] at e'; cases e'
    exact hp
theorem call_dictPT (hcalm : X.calm = true) : CallR X (.type "dict") (fun xs H Q => ∃ (a : Addr) (o : Obj) (ps : List Addr) (kvs : List (Key × V)), xs = [.ref a] ∧ H a = some (.frz o (.tup (ps.map V.ref))) ∧ o.dict = none ∧ Paired (fun p kv => SqT X.K H p [kV kv.1, kv.2]) ps kvs ∧
    ∀ p, H p = none → Q (.ref p) (upd H p (.dK (mergeK [] kvs)))) := by
  intro pins s σ H xs us Q I r q
  obtain ⟨a, o, ps, kvs, ex, hq, hdn, hp, q⟩ := q
  subst ex
  obtain ⟨u, eu, rx⟩ := vals1 r
  subst eu
  cases rx
  obtain ⟨ho, hz, its, rv, o', ho', hc, n, hdat⟩ := (show ObjOk X.prog X.w H s.heap a (.frz o (.tup (ps.map V.ref))) from I.hok a _ hq)
  rw [ho] at ho'
  cases ho'
  have ei := refs_at rv
  subst ei
  rw [List.length_map] at hz
  obtain ⟨prs, rel, hl, hpr⟩ := pairs_of I hp
  have hS : prs.length ≤ sizeLine := by rw [hl]; exact hz
  obtain ⟨us, hul, hus⟩ := each_of Value.none (fun j (q : Key × Value) u => ∃ b, ps[j]? = some b ∧ IsTup s.heap b #[u, q.2] ∧ keyIs q.1 u = true) prs fun j q e => let ⟨b, u, e1, e2, e3⟩ := hpr j q e; ⟨u, b, e1, e2, e3⟩
  have hz2 : ∀ (j : Nat) (k v : Value), (us.zip (prs.map Prod.snd))[j]? = some (k, v) → ∃ q, prs[j]? = some q ∧ us[j]? = some k ∧ v = q.2 := fun j k v e => by
    obtain ⟨e1, e2⟩ := List.getElem?_zip_eq_some.mp e
    rw [List.getElem?_map] at e2
    cases e3 : prs[j]? with
    | none => rw [e3] at e2; cases e2
    | some q => rw [e3] at e2; exact ⟨q, rfl, e1, (Option.some.inj e2).symm⟩
  have hzl : (us.zip (prs.map Prod.snd)).length = prs.length := by simp [hul]
  have P := PySem.PairArg.tuple (prog := X.prog) (w := X.w) a (ps.map Value.ref).toArray (fun j => ps.getD j 0) (us.zip (prs.map Prod.snd))
  refine PySem.call_dict_pairs (knd := mixKind X.prog X.w) (kvs := prs) P (I.ok.hd hcalm) ⟨⟨o, n, ho, hc, hdn, hdat⟩, by simp [hul, hl], fun j k v e => ?_⟩ ⟨hzl.symm, fun j key v e => ?_⟩ (by rw [hzl]; exact hS) fun h' tk hd' k => ?_
  · obtain ⟨q', e1, e2, rfl⟩ := hz2 j k v e
    obtain ⟨u, e3, b, e4, e5, e6⟩ := hus j q' e1
    rw [e2] at e3; cases e3
    have eb : ps.getD j 0 = b := by rw [List.getD_eq_getElem?_getD, e4]; rfl
    refine ⟨by show (ps.map Value.ref).toArray[j]? = some (Value.ref (ps.getD j 0)); rw [eb]; simp [e4], .inl ?_⟩
    show s.heap.IsTuple (ps.getD j 0) #[k, q'.2]
    rw [eb]; exact e5
  · obtain ⟨q', e1, e2, rfl⟩ := hz2 j key v e
    obtain ⟨u, e3, b, e4, e5, e6⟩ := hus j q' e1
    rw [e2] at e3; cases e3
    exact ⟨q'.1, e1, e6⟩
  · have hm : (s.heap.objs.size == sysModules) = false := beq_eq_false_iff_ne.mpr (Nat.ne_of_gt I.big)
    have hlen : (mergeK [] kvs).length ≤ sizeLine := by
      refine Nat.le_trans (length_mergeK kvs []) ?_
      rw [List.length_nil, Nat.zero_add, rel.length, hl]
      exact hz
    exact ⟨.ref s.heap.objs.size, upd H s.heap.objs.size (.dK (mergeK [] kvs)), I.laid (t' := tk) (fun b o e => k b o (by simp) e) (Nat.le_refl _) (show ObjOk X.prog X.w _ _ _ (.dK (mergeK [] kvs)) from ⟨hlen, hm, merged [] prs, KV.merge rel .nil, hd'⟩), rfl, q _ (I.hok.fresh (Nat.le_refl _))⟩
theorem sDictT (hK : X.K = M.K) (hc : X.calm = true) : CallR X (.type "dict") (rF M .dictT) := by
  intro pins s σ H xs us Q I r h
  obtain ⟨m, h, vs, rh, rv, q⟩ := h
  match vs, q with
  | [v], q =>
    obtain ⟨a, prs, rfl, e, ek, q⟩ := (show ∃ (a : Nat) (prs : List (PV × PV)), v = .ref a ∧ h[a]? = some (.tpl (prs.map fun p => .tup [p.1, p.2])) ∧ (prs.all fun p => isK p.1) = true ∧ LQ M m H Q (.ref h.length) (h ++ [.dic (mergeP [] prs)]) from q)
    obtain ⟨w, rfl, rw_⟩ := rv.one_of
    obtain ⟨p, ep, rfl⟩ := rw_
    obtain ⟨zs, ⟨o, e1, e2⟩, e3⟩ := rh.obj _ _ _ e ep
    obtain ⟨ps, kvs, rfl, hp, hm⟩ := prs_rel prs zs ek e3
    refine call_dictPT hc pins s σ H _ us Q I r ⟨p, o, ps, kvs, rfl, e1, e2, by rw [hK]; exact hp, ?_⟩
    exact q.new rh rfl fun p2 hp2 => ⟨_, upd_same, (hm [] [] rfl).mono (Kp.upd_new hp2) (Ex.app m p2)⟩
  | [], q => exact (show False from q).elim
  | _ :: _ :: _, q => exact (show False from q).elim
/-- dict(zip(a, b)) of lists of one length -/
def tDictZip (K : PySem.W.Frag) (ta : TA) : TE := fun σ H Q => ta σ H fun vs H1 => ∃ (a b : Addr) (kvs : List (Key × V)), vs = [.ref a, .ref b] ∧ SqL K H1 a (kvs.map fun q => kV q.1) ∧ SqL K H1 b (kvs.map (·.2)) ∧ ∀ p, H1 p = none → Q (.ref p) (upd H1 p (.dK (mergeK [] kvs)))
theorem kV_key {k : Key} {u : Value} (r : RelV (kV k) u) : keyIs k u = true := by
  cases k with
  | inl i => obtain ⟨t, e⟩ := (show ∃ t, u = Value.int i t from r); subst e; exact keyIs_int i t
  | inr x => obtain ⟨t, e⟩ := (show ∃ t, u = Value.str x t from r); subst e; exact keyIs_str x t
theorem prs_at : ∀ {kvs : List (Key × V)} {its its2 : List Value}, Vals (kvs.map fun q => kV q.1) its → Vals (kvs.map (·.2)) its2 → ∃ prs : List (Key × Value), KV kvs prs ∧ prs.length = its.length ∧ its.length = its2.length ∧ ∀ (j : Nat) (k v : Value), its[j]? = some k → its2[j]? = some v → ∃ q, prs[j]? = some (q, v) ∧ keyIs q k = true
  | [], its, its2, r1, r2 => by cases r1; cases r2; exact ⟨[], .nil, rfl, rfl, fun j k v e => by simp at e⟩
  | q :: kvs, its, its2, r1, r2 => by
    cases r1 with
    | cons a1 r1 =>
      cases r2 with
      | cons a2 r2 =>
        rename_i u us y ys
        obtain ⟨prs, h1, h2, h3, h4⟩ := prs_at r1 r2
        refine ⟨(q.1, y) :: prs, .cons ⟨rfl, a2⟩ h1, by simp [h2], by simp [h3], fun j k v e1 e2 => ?_⟩
        cases j with
        | zero => cases (show u = k by simpa using e1); cases (show y = v by simpa using e2); exact ⟨q.1, rfl, kV_key a1⟩
        | succ j => obtain ⟨q', h5, h6⟩ := h4 j k v (by simpa using e1) (by simpa using e2); exact ⟨q', by simpa using h5, h6⟩
theorem pe_dictZip {p p2 pos pos2 : Pos} {e e2 : Expr} {ta : TA} (hc : X.calm = true) (hd : Gl X "dict") (hmd : X.mg "dict" = none) (hg : Gl X "zip") (hm : X.mg "zip" = none) (ha : PA X [e, e2] ta)
    (hs : starEach [e, e2] X.env = (false, eval e X.env) :: starEach [e2] X.env := by rfl) (hpl : (backTo pos2 (starEach [e2] X.env)).any (·.1) = false := by rfl) :
    PE X (.Call (.Name "dict" p) [.Call (.Name "zip" p2) [e, e2] [] pos2] [] pos) (tDictZip X.K ta) := by
  refine ⟨fun pins s σ H Q I h => ?_⟩
  refine Call_ (ld_blt I hd hmd boot_dict (PyProof.Rows.callWith_type1 (args_cons (thn (Q := fun x s' => ∃ (H1 : Hp) (s1 : Shared) (a b : Addr) (kvs : List (Key × V)) (its its2 : List Value), x = .ref (s1.heap.objs.size + 4) ∧ Inv X pins σ H1 s1 ∧ Vals (kvs.map fun q => kV q.1) its ∧ Vals (kvs.map (·.2)) its2 ∧ kvs.length ≤ sizeLine ∧
      a < s1.heap.objs.size ∧ b < s1.heap.objs.size ∧ s1.heap.objs.size ≤ s'.heap.objs.size ∧ s' = { s1 with heap := s'.heap } ∧ (∀ c o, s1.heap.get? c = some o → s'.heap.get? c = some o) ∧
      (IsZip s'.heap (s1.heap.objs.size + 4) (s1.heap.objs.size + 2) (s1.heap.objs.size + 3) .none ∧ IsPair s'.heap (s1.heap.objs.size + 2) (.ref s1.heap.objs.size) (.ref (s1.heap.objs.size + 1)) ∧ (∃ a b, IsPair s'.heap (s1.heap.objs.size + 3) a b) ∧ s'.heap.IsListIter s1.heap.objs.size a 0 ∧ s'.heap.IsListIter (s1.heap.objs.size + 1) b 0 ∧ s'.heap.IsList a its.toArray ∧ s'.heap.IsList b its2.toArray) ∧
      ∀ p, H1 p = none → Q (.ref p) (upd H1 p (.dK (mergeK [] kvs)))) (Call_ (ld_blt I hg hm PyProof.Rows.boot_zip (PyProof.Rows.callWith_type1 (thn (ha.run pos2 pins s σ H _ I h) fun us s1 ⟨vs, H1, I1, r1, q1⟩ => ?_) hs hpl))) fun x s' hx => args_nil ?_) (by rfl)) (by rfl)))
  · obtain ⟨a, b, kvs, ex, hqx, hqy, q⟩ := q1
    subst ex
    cases r1 with
    | cons r rr =>
      cases rr with
      | cons r' rr =>
        cases rr
        cases r
        cases r'
        obtain ⟨its, rv, p1, z1⟩ := I1.list hqx
        obtain ⟨its2, rv2, p2, _⟩ := I1.list hqy
        rw [List.length_map] at z1
        have la : a < s1.heap.objs.size := p1.lt
        have lb : b < s1.heap.objs.size := p2.lt
        refine call_zip_2 p1.isList p2.isList fun h' hz hTI hTO h1 h2 hsz hk => ?_
        exact ⟨H1, s1, a, b, kvs, its, its2, rfl, I1, rv, rv2, z1, la, lb, by show _ ≤ h'.objs.size; omega, rfl, hk, ⟨hz, hTI, ⟨_, _, hTO⟩, h1, h2, p1.isList.at fun o q => hk _ o q, p2.isList.at fun o q => hk _ o q⟩, q⟩
  · obtain ⟨H1, s1, a, b, kvs, its, its2, rfl, I1, rv, rv2, zl, la, lb, ls, es, hk, ok, q⟩ := hx
    obtain ⟨prs, rel, pl, pl2, hp⟩ := prs_at rv rv2
    have D := PySem.W.ktu_apart s1.heap.objs.size a b la lb
    have P := PairArg.zip (prog := X.prog) (w := X.w) (s1.heap.objs.size + 4) (s1.heap.objs.size + 2) (s1.heap.objs.size + 3) s1.heap.objs.size (s1.heap.objs.size + 1) a b D its.toArray its2.toArray
    have rvl := rv.length
    rw [List.length_map] at rvl
    have hn : min its.toArray.size its2.toArray.size = prs.length := by simp; omega
    refine PySem.call_dict_pairs (knd := mixKind X.prog X.w) (kvs := prs) P (I1.ok.hd hc) ok ⟨hn.symm, fun j k v e => hp j k v (by simpa using e.1) (by simpa using e.2)⟩ (Nat.le_trans (Nat.min_le_left ..) (by rw [List.size_toArray, ← rvl]; exact zl)) fun h' tk hd' kk => ?_
    have hm' : (s'.heap.objs.size == sysModules) = false := beq_eq_false_iff_ne.mpr (Nat.ne_of_gt (Nat.lt_of_lt_of_le I1.big ls))
    have hlen : (mergeK [] kvs).length ≤ sizeLine := Nat.le_trans (length_mergeK kvs []) (by rw [List.length_nil, Nat.zero_add]; exact zl)
    have keep : ∀ c o, s1.heap.get? c = some o → h'.get? c = some o := fun c o e => by
      have lc := Heap.lt_size e
      refine kk c o (fun mm => ?_) (hk c o e)
      simp only [List.mem_cons, List.not_mem_nil, or_false] at mm
      rcases mm with z | z | z | z <;> (rw [z] at lc; exact absurd lc (Nat.not_lt.mpr (by first | exact Nat.le_refl _ | exact Nat.le_add_right _ _)))
    refine ⟨.ref s'.heap.objs.size, upd H1 s'.heap.objs.size (.dK (mergeK [] kvs)), ?_, rfl, q _ (I1.hok.fresh ls)⟩
    rw [es]
    exact I1.laid (t' := tk) keep ls (show ObjOk X.prog X.w _ _ _ (.dK (mergeK [] kvs)) from ⟨hlen, hm', merged [] prs, KV.merge rel .nil, hd'⟩)
/-- two lists of one length, as entries -/
theorem zip_rel {K : PySem.W.Frag} {H : Hp} {m : List Addr} : ∀ (xs ys : List PV) (us vs : List V), xs.all isK = true → xs.length = ys.length → RVs K H m xs us → RVs K H m ys vs →
    ∃ kvs : List (Key × V), us = kvs.map (fun q => kV q.1) ∧ vs = kvs.map (·.2) ∧ ∀ a b, RKs K H m a b → RKs K H m (mergeP a (xs.zip ys)) (mergeK b kvs)
  | [], [], us, vs, _, _, r1, r2 => by cases (show us = [] from r1); cases (show vs = [] from r2); exact ⟨[], rfl, rfl, fun a b r => r⟩
  | [], _ :: _, _, _, _, e, _, _ => by cases e
  | _ :: _, [], _, _, _, e, _, _ => by cases e
  | k :: xs, v :: ys, us, vs, ha, e, r1, r2 => by
    obtain ⟨hk, ha⟩ := Bool.and_eq_true_iff.mp (show (isK k && xs.all isK) = true from ha)
    obtain ⟨x1, us', rfl, hx1, r1⟩ := r1
    obtain ⟨x2, vs', rfl, hx2, r2⟩ := r2
    obtain ⟨kvs, rfl, rfl, hm⟩ := zip_rel xs ys us' vs' ha (by simpa using e) r1 r2
    cases k with
    | int i =>
      cases (show x1 = .int i from hx1)
      exact ⟨(.inl i, x2) :: kvs, rfl, rfl, fun a b r => hm _ _ (put_of (k := .int i) (q := .inl i) rfl hx2 r)⟩
    | str i =>
      cases (show x1 = .str i from hx1)
      exact ⟨(.inr i, x2) :: kvs, rfl, rfl, fun a b r => hm _ _ (put_of (k := .str i) (q := .inr i) rfl hx2 r)⟩
    | _ => cases hk
theorem call_tupleP : CallR X (.type "tuple") (fun xs H Q => ∃ p ys, xs = [.ref p] ∧ SqL X.K H p ys ∧ ∀ l o, H l = none → o.dict = none → Q (.ref l) (upd H l (.frz o (.tup ys)))) := by
  intro pins s σ H xs us Q I r h
  obtain ⟨p, ys, rfl, hq, q⟩ := h
  obtain ⟨u, rfl, rx⟩ := vals1 r
  cases rx
  obtain ⟨its, r', pl, hz⟩ := I.list hq
  have hlen := r'.length
  refine call_tuple_list pl.isList (fun h' kp => ?_) (by simp only [List.size_toArray] <;> omega)
  have I1 : L2.Inv X pins σ H { s with heap := h' } := I.kept (t' := s.toks) kp
  have hg : (h'.push { cls := .type "tuple", data := .seq its.toArray }).get? h'.objs.size = some { cls := .type "tuple", data := .seq its.toArray } := Heap.get?_push_size _ rfl
  have I2 : L2.Inv X pins σ (upd H h'.objs.size (.frz { cls := .type "tuple", data := .seq its.toArray } (.tup ys))) { s with heap := h'.push { cls := .type "tuple", data := .seq its.toArray } } :=
    I1.laid (t' := s.toks) (fun b o e => Heap.get?_push_of_some _ e) (Nat.le_refl _) (show ObjOk X.prog X.w _ _ _ (.frz _ (.tup ys)) from ⟨hg, hz, its, r', IsTup.new _ _⟩)
  exact ⟨.ref h'.objs.size, _, I2, rfl, q _ _ (I1.hok.fresh (Nat.le_refl _)) rfl⟩
theorem sTupleP (hK : X.K = M.K) : CallR X (.type "tuple") (rF M .tupleP) := by
  intro pins s σ H xs us Q I r h
  obtain ⟨m, h, vs, rh, rv, q⟩ := h
  match vs, q with
  | [v], q =>
    obtain ⟨ys, e, q⟩ := (show ∃ xs, lstOf h v = some xs ∧ LQ M m H Q (.ref h.length) (h ++ [.tpl xs]) from q)
    obtain ⟨w, rfl, rw_⟩ := rv.one_of
    obtain ⟨p, zs, rfl, e1, e2⟩ := lstOf_get rh rw_ e
    refine call_tupleP pins s σ H _ us Q I r ⟨p, zs, rfl, by rw [hK]; exact e1, fun l o hl ho => ?_⟩
    exact q.new (u := .frz o (.tup zs)) rh rfl (fun p2 hp2 => ⟨zs, ⟨o, upd_same, ho⟩, e2.mono (Kp.upd_new hp2) (Ex.app m p2) _ _⟩) l hl
  | [], q => exact (show False from q).elim
  | _ :: _ :: _, q => exact (show False from q).elim
end
end Py

set_option Elab.async false
set_option linter.all false
set_option maxRecDepth 100000
set_option maxHeartbeats 4000000
/-! list(zip(a, b)) of two lists. -/
namespace PySem
open PySem.Builtin
/-- a zip of two lists, i items told, while a list is being filled at S -/
def LzSt (z TI TO i1 i2 l1 l2 S : Addr) (xs ys : Array Value) (i : Nat) (h : Heap) : Prop := IsPair h TI (.ref i1) (.ref i2) ∧ h.IsListIter i1 l1 i ∧ h.IsListIter i2 l2 i ∧ h.IsList l1 xs ∧ h.IsList l2 ys ∧
  ((IsZip h z TI TO .none ∧ ∃ a b, IsPair h TO a b) ∨ ∃ T f oT, IsZipHeld h z TI TO T f ∧ h.get? T = some oT ∧ T ≠ z ∧ T ≠ i1 ∧ T ≠ i2 ∧ T ≠ S)
/-- S stands apart, behind what the zip turns -/
structure LzAp (z TI TO i1 i2 l1 l2 S : Addr) : Prop where
  z : z < S
  TI : TI < S
  TO : TO < S
  i1 : i1 < S
  i2 : i2 < S
  l1 : l1 < S
  l2 : l2 < S
section
variable {prog : Program} {w : World} {A : Around} {E : Value → Shared → Prop} {s : Shared} {z TI TO i1 i2 l1 l2 S : Addr} {xs ys : Array Value} {i : Nat}
theorem LzSt.frame (P : LzAp z TI TO i1 i2 l1 l2 S) {h h' : Heap} (st : LzSt z TI TO i1 i2 l1 l2 S xs ys i h) (hk : ∀ b o, b ≠ S → h.get? b = some o → h'.get? b = some o) : LzSt z TI TO i1 i2 l1 l2 S xs ys i h' := by
  obtain ⟨hTI, h1, h2, hl1, hl2, hz⟩ := st
  refine ⟨hk _ _ (Nat.ne_of_lt P.TI) hTI, h1.at fun o e => hk _ o (Nat.ne_of_lt P.i1) e, h2.at fun o e => hk _ o (Nat.ne_of_lt P.i2) e, hl1.at fun o e => hk _ o (Nat.ne_of_lt P.l1) e, hl2.at fun o e => hk _ o (Nat.ne_of_lt P.l2) e, ?_⟩
  rcases hz with ⟨hz, a, b, hTO⟩ | ⟨T, f, oT, hz, hT, r1, r2, r3, r4⟩
  · exact .inl ⟨hk _ _ (Nat.ne_of_lt P.z) hz, a, b, hk _ _ (Nat.ne_of_lt P.TO) hTO⟩
  · exact .inr ⟨T, f, oT, hk _ _ (Nat.ne_of_lt P.z) hz, hk _ _ r4 hT, r1, r2, r3, r4⟩
theorem lz_item {Q : Option Value → Shared → Prop} (D : ZipApart z TI TO i1 i2 l1 l2) (st : LzSt z TI TO i1 i2 l1 l2 S xs ys i s.heap) (hS : S < s.heap.objs.size) {x y : Value} (ex : xs[i]? = some x) (ey : ys[i]? = some y)
    (hQ : ∀ h', LzSt z TI TO i1 i2 l1 l2 S xs ys (i + 1) h' → IsPair h' s.heap.objs.size x y → (∀ b o, b ≠ z → b ≠ TO → b ≠ i1 → b ≠ i2 → s.heap.get? b = some o → h'.get? b = some o) → Q (some (.ref s.heap.objs.size)) { s with heap := h' }) :
    wpAny (model prog w) A (pyNext (.ref z)) Q E s := by
  obtain ⟨hTI, h1, h2, hl1, hl2, hz⟩ := st
  have lt : ∀ {c o}, s.heap.get? c = some o → s.heap.objs.size ≠ c := fun e => Nat.ne_of_gt (Heap.lt_size e)
  have n1 : s.heap.objs.size ≠ i1 := let ⟨_, e, _⟩ := h1; lt e
  have n2 : s.heap.objs.size ≠ i2 := let ⟨_, e, _⟩ := h2; lt e
  rcases hz with ⟨hz, a, b, hTO⟩ | ⟨T, f, oT, hz, hT, r1, r2, r3, r4⟩
  · refine wpAny_pyNext_zip_item D hz hTI hTO h1 h2 hl1 hl2 ex ey fun h' a1 a2 a3 a4 a5 a6 hk => ?_
    exact hQ h' ⟨hk _ _ D.TIz D.TITO D.TIi1 D.TIi2 hTI, a3, a4, hl1.at fun o e => hk _ o D.l1z D.l1TO D.l1i1 D.l1i2 e, hl2.at fun o e => hk _ o D.l2z D.l2TO D.l2i1 D.l2i2 e,
      .inr ⟨s.heap.objs.size, false, _, a1, a5, lt hz, n1, n2, Nat.ne_of_gt hS⟩⟩ a5 hk
  · refine wpAny_pyNext_zip_item_held D hz hT hTI h1 h2 hl1 hl2 ex ey fun h' a1 a3 a4 a5 a6 hk => ?_
    exact hQ h' ⟨hk _ _ D.TIz D.TIi1 D.TIi2 hTI, a3, a4, hl1.at fun o e => hk _ o D.l1z D.l1i1 D.l1i2 e, hl2.at fun o e => hk _ o D.l2z D.l2i1 D.l2i2 e,
      .inr ⟨T, true, oT, a1, hk _ _ r1 r2 r3 hT, r1, r2, r3, r4⟩⟩ a5 fun b o n1 _ n3 n4 e => hk b o n1 n3 n4 e
theorem lz_done {Q : Option Value → Shared → Prop} (hh : A.handled = none) (D : ZipApart z TI TO i1 i2 l1 l2) (st : LzSt z TI TO i1 i2 l1 l2 S xs ys i s.heap) (hend : xs[i]? = none ∨ ys[i]? = none)
    (hQ : ∀ h', (∀ b o, b ≠ z → b ≠ TO → b ≠ i1 → b ≠ i2 → s.heap.get? b = some o → h'.get? b = some o) → Q none { s with heap := h' }) : wpAny (model prog w) A (pyNext (.ref z)) Q E s := by
  obtain ⟨hTI, h1, h2, hl1, hl2, hz⟩ := st
  rcases hz with ⟨hz, a, b, hTO⟩ | ⟨T, f, oT, hz, hT, r1, r2, r3, r4⟩
  · exact wpAny_pyNext_zip_end hh D hz hTI hTO h1 h2 hl1 hl2 hend fun h' hk => hQ h' hk
  · exact wpAny_pyNext_zip_end_held hh D hz hT hTI h1 h2 hl1 hl2 hend fun h' hk => hQ h' fun b o n1 _ n3 n4 e => hk b o n1 n3 n4 e
end
/-- the pairs made so far -/
structure LzG (xs ys : Array Value) (S : Addr) (h : Heap) (as : List Addr) : Prop where
  rise : as.Pairwise (· < ·)
  above : ∀ a ∈ as, S < a
  pairs : ∀ (j : Nat) (a : Addr), as[j]? = some a → ∃ x y, xs[j]? = some x ∧ ys[j]? = some y ∧ IsPair h a x y
section
variable {prog : Program} {w : World} {A : Around} {s : Shared} {R : Result → Shared → Prop} {z TI TO i1 i2 l1 l2 S : Addr} {xs ys : Array Value}
theorem lz_loop (hh : A.handled = none) (D : ZipApart z TI TO i1 i2 l1 l2) (P : LzAp z TI TO i1 i2 l1 l2 S) (hxy : xs.size = ys.size) (hn : xs.size ≤ sizeLine) (res : Value) {h₁ : Heap}
    (hR : ∀ h' tk acc c (as : List Addr), (∀ b o, b ≠ S → b ≠ z → b ≠ TO → b ≠ i1 → b ≠ i2 → h₁.get? b = some o → h'.get? b = some o) → h'.get? S = some { cls := .type "list", dict := none, data := .seq acc c, slots := #[] } → as.length = xs.size → LzG xs ys S h' as →
      acc.toList = as.map Value.ref → R (.ok (.ret res)) { s with heap := h', toks := tk }) :
    ∀ (k i : Nat) (h : Heap) (tk c : Nat) (acc : Array Value) (as : List Addr), xs.size - i = k → i ≤ xs.size → LzSt z TI TO i1 i2 l1 l2 S xs ys i h → (∀ b o, b ≠ S → b ≠ z → b ≠ TO → b ≠ i1 → b ≠ i2 → h₁.get? b = some o → h.get? b = some o) →
      h.get? S = some { cls := .type "list", dict := none, data := .seq acc c, slots := #[] } → acc.toList = as.map Value.ref → as.length = i → LzG xs ys S h as →
      codeAny (model prog w) A (.builtin "list.extend.loop" ⟨[.ref S, .ref z, res], []⟩) R { s with heap := h, toks := tk } := by
  have off : ∀ {b : Addr}, S ≤ b → b ≠ z ∧ b ≠ TO ∧ b ≠ i1 ∧ b ≠ i2 := fun hb => ⟨Nat.ne_of_gt (Nat.lt_of_lt_of_le P.z hb), Nat.ne_of_gt (Nat.lt_of_lt_of_le P.TO hb), Nat.ne_of_gt (Nat.lt_of_lt_of_le P.i1 hb), Nat.ne_of_gt (Nat.lt_of_lt_of_le P.i2 hb)⟩
  intro k
  induction k with
  | zero =>
    intro i h tk c acc as hk hi hst hkeep hS hacc hal hG
    have hin : i = xs.size := by omega
    refine codeAny_builtin PySem.F.entry_extend_loop ?_
    rw [Around.under_plainId PySem.F.plain_extend_loop _]
    show wpAny _ A.in1 (pyNext (.ref z) >>= _) _ _ _
    refine wpAny_bind (lz_done (s := { s with heap := h, toks := tk }) (A := A.in1) hh D hst (.inl (Array.getElem?_eq_none (by omega))) fun h' he => ?_)
    obtain ⟨a1, a2, a3, a4⟩ := off (Nat.le_refl S)
    refine wpAny_pure (hR h' tk acc c as (fun b o n0 n1 n2 n3 n4 e => he b o n1 n2 n3 n4 (hkeep b o n0 n1 n2 n3 n4 e)) (he S _ a1 a2 a3 a4 hS) (by omega) ⟨hG.rise, hG.above, fun j a hj => ?_⟩ hacc)
    obtain ⟨x, y, e1, e2, e3⟩ := hG.pairs j a hj
    obtain ⟨b1, b2, b3, b4⟩ := off (Nat.le_of_lt (hG.above a (List.mem_of_getElem? hj)))
    exact ⟨x, y, e1, e2, he a _ b1 b2 b3 b4 e3⟩
  | succ k ih =>
    intro i h tk c acc as hk hi hst hkeep hS hacc hal hG
    have hlt : i < xs.size := by omega
    have hsz : acc.size = i := by rw [← Array.length_toList, hacc, List.length_map, hal]
    have ex := Array.getElem?_eq_getElem hlt
    have ey : ys[i]? = some (ys[i]'(by omega)) := Array.getElem?_eq_getElem (by omega)
    refine codeAny_builtin PySem.F.entry_extend_loop ?_
    rw [Around.under_plainId PySem.F.plain_extend_loop _]
    show wpAny _ A.in1 (pyNext (.ref z) >>= _) _ _ _
    have hSl : S < h.objs.size := Heap.lt_size hS
    refine wpAny_bind (lz_item (s := { s with heap := h, toks := tk }) (S := S) D hst hSl ex ey fun h' hst' ht hkp => ?_)
    dsimp only at ht hkp ⊢
    obtain ⟨a1, a2, a3, a4⟩ := off (Nat.le_refl S)
    have hS' := hkp S _ a1 a2 a3 a4 hS
    have up : ∀ b o, b ≠ S → h'.get? b = some o → (h'.update S (Obj.mapSeq (·.push (Value.ref h.objs.size)))).get? b = some o := fun b o hb e => (Heap.get?_update_other _ _ (Ne.symm hb)).trans e
    show wpAny _ A.in1 (updateSeq S (·.push (Value.ref h.objs.size)) >>= _) _ _ _
    refine wpAny_bind ?_
    refine wpAny_updateSeq hS' rfl (wpAny_pure ⟨plainId_quiet PySem.F.plain_extend_loop _, ih (i + 1) _ tk _ (acc.push (Value.ref h.objs.size)) (as ++ [h.objs.size]) (by omega) hlt (hst'.frame P up)
      (fun b o n0 n1 n2 n3 n4 e => up b o n0 (hkp b o n1 n2 n3 n4 (hkeep b o n0 n1 n2 n3 n4 e))) (Heap.get?_update_self _ hS' rfl) (by rw [Array.toList_push, hacc, List.map_append]; rfl) (by rw [List.length_append, hal]; rfl) ⟨?_, ?_, ?_⟩⟩) (by rw [hsz]; omega) (by show (acc.push (Value.ref h.objs.size)).size ≤ sizeLine + 1; rw [Array.size_push, hsz]; omega)
    · refine List.pairwise_append.mpr ⟨hG.rise, List.pairwise_singleton _ _, fun a ha b hb => ?_⟩
      rw [List.mem_singleton.mp hb]
      obtain ⟨j, hj⟩ := List.mem_iff_getElem?.mp ha
      obtain ⟨_, _, _, _, e⟩ := hG.pairs j a hj
      exact Heap.lt_size e
    · intro a ha
      rcases List.mem_append.mp ha with ha | ha
      · exact hG.above a ha
      · rw [List.mem_singleton.mp ha]; exact hSl
    · intro j b hj
      rcases Nat.lt_trichotomy j as.length with h1 | h1 | h1
      · rw [List.getElem?_append_left h1] at hj
        obtain ⟨x, y, e1, e2, e3⟩ := hG.pairs j b hj
        have hb := hG.above b (List.mem_of_getElem? hj)
        obtain ⟨b1, b2, b3, b4⟩ := off (Nat.le_of_lt hb)
        exact ⟨x, y, e1, e2, up b _ (Nat.ne_of_gt hb) (hkp b _ b1 b2 b3 b4 e3)⟩
      · subst h1
        have hb : h.objs.size = b := by simpa using hj
        subst hb
        subst hal
        exact ⟨_, _, ex, ey, up _ _ (Nat.ne_of_gt hSl) ht⟩
      · have hnone : (as ++ [h.objs.size])[j]? = none := List.getElem?_eq_none (by rw [List.length_append, List.length_singleton]; omega)
        rw [hnone] at hj; cases hj
end
namespace F
theorem lz_no_len : typeLookup (.type "zip") "__len__" = pure none := by rw [typeLookup_type, builtinLookup_eq_fast]; kernel_rfl
theorem lz_no_hint : typeLookup (.type "zip") "__length_hint__" = pure none := by rw [typeLookup_type, builtinLookup_eq_fast]; kernel_rfl
end F
section
variable {prog : Program} {w : World} {A : Around} {E : Value → Shared → Prop} {s : Shared} {z TI TO i1 i2 l1 l2 : Addr} {xs ys : Array Value}
theorem LzSt.typ {S : Addr} {i : Nat} (st : LzSt z TI TO i1 i2 l1 l2 S xs ys i s.heap) : s.TypeIs (.ref z) "zip" := by
  rcases st.2.2.2.2.2 with ⟨hz, _⟩ | ⟨T, f, oT, hz, _⟩
  · exact ⟨_, hz, rfl⟩
  · exact ⟨_, hz, rfl⟩
theorem lz_extend {R : Result → Shared → Prop} (hh : A.handled = none) (D : ZipApart z TI TO i1 i2 l1 l2) (S : Addr) (P : LzAp z TI TO i1 i2 l1 l2 S) (hxy : xs.size = ys.size) (hn : xs.size ≤ sizeLine) (res : Value) (c₀ : Nat)
    (ok : IsZip s.heap z TI TO .none ∧ IsPair s.heap TI (.ref i1) (.ref i2) ∧ (∃ a b, IsPair s.heap TO a b) ∧ s.heap.IsListIter i1 l1 0 ∧ s.heap.IsListIter i2 l2 0 ∧ s.heap.IsList l1 xs ∧ s.heap.IsList l2 ys)
    (hS : s.heap.get? S = some { cls := .type "list", data := .seq #[] c₀ })
    (hR : ∀ h' tk acc c (as : List Addr), (∀ b o, b ≠ S → b ≠ z → b ≠ TO → b ≠ i1 → b ≠ i2 → s.heap.get? b = some o → h'.get? b = some o) → h'.get? S = some { cls := .type "list", dict := none, data := .seq acc c, slots := #[] } → as.length = xs.size → LzG xs ys S h' as →
      acc.toList = as.map Value.ref → R (.ok (.ret res)) { s with heap := h', toks := tk }) :
    wpAny (model prog w) A.in1 (Builtin.List.listExtendWith (.ref S) (.ref z) res)
      (fun fin s' => match fin with | .done f => R (.ok f) s' | .again c' => c'.quiet = true ∧ codeAny (model prog w) A c' R s') (fun e s' => R (.error e) s') s := by
  obtain ⟨hz, hTI, hTO, hi1, hi2, hl1, hl2⟩ := ok
  have hT : s.TypeIs (.ref z) "zip" := ⟨_, hz, rfl⟩
  unfold Builtin.List.listExtendWith
  refine wpAny_bind (wpAny_typeOf hT ?_)
  have h1 : Builtin.List.listSameRef (.ref S) (.ref z) = false := by simp [Builtin.List.listSameRef, Nat.ne_of_gt P.z]
  have h2 : (Value.type "zip" == Value.type "list") = false := by decide
  have h3 : (Value.type "zip" == Value.type "tuple") = false := by decide
  simp only [h1, h2, h3, Bool.or_false, Bool.false_eq_true, if_false]
  refine wpAny_bind (wpAny_pyIter_zip hz ?_)
  refine wpAny_bind (wpAny_holding ?_)
  unfold Builtin.List.listLengthHint
  refine wpAny_bind (wpAny_specialOf hT F.lz_no_len ?_)
  show wpAny _ A.in1 (specialOf (Value.ref z) (Str.ofString "__length_hint__") >>= _) _ _ _
  refine wpAny_bind (wpAny_specialOf hT F.lz_no_hint ?_)
  refine wpAny_pure ?_
  show wpAny _ A.in1 (rule "list.extend.makes-room" >>= fun _ => Builtin.List.listTouch (.ref S) >>= fun _ =>
    again (.builtin "list.extend.loop" ⟨[.ref S, .ref z, res], []⟩)) _ _ _
  refine wpAny_bind (wpAny_rule ?_)
  refine wpAny_bind ?_
  show wpAny _ A.in1 (updateSeq S (·.push .none) >>= fun _ => updateSeq S (·.pop)) _ _ _
  refine wpAny_bind (wpAny_updateSeq hS rfl ?_)
  have hS₂ := Heap.get?_update_self (Obj.mapSeq (·.push Value.none)) hS rfl
  refine wpAny_updateSeq (hz := by seq_fits) hS₂ rfl ?_
  have hS₃ := Heap.get?_update_self (Obj.mapSeq (·.pop)) hS₂ rfl
  have oth : ∀ b o, b ≠ S → s.heap.get? b = some o → ((s.heap.update S (Obj.mapSeq (·.push Value.none))).update S (Obj.mapSeq (·.pop))).get? b = some o :=
    fun b o hb e => (Heap.get?_update_other _ _ (Ne.symm hb)).trans ((Heap.get?_update_other _ _ (Ne.symm hb)).trans e)
  have st0 : LzSt z TI TO i1 i2 l1 l2 S xs ys 0 s.heap := ⟨hTI, hi1, hi2, hl1, hl2, .inl ⟨hz, hTO⟩⟩
  refine wpAny_pure ⟨plainId_quiet F.plain_extend_loop _, lz_loop (s := s) (h₁ := s.heap) hh D P hxy hn res hR xs.size 0 _ s.toks _ _ [] (Nat.sub_zero _) (Nat.zero_le _) (st0.frame P oth) (fun b o n0 _ _ _ _ e => oth b o n0 e) hS₃ rfl rfl ⟨List.Pairwise.nil, (fun _ ha => nomatch ha), (fun j a hj => by simp at hj)⟩⟩
theorem lz_init {R : Result → Shared → Prop} (hh : A.handled = none) (D : ZipApart z TI TO i1 i2 l1 l2) (S : Addr) (P : LzAp z TI TO i1 i2 l1 l2 S) (hxy : xs.size = ys.size) (hn : xs.size ≤ sizeLine)
    (ok : IsZip s.heap z TI TO .none ∧ IsPair s.heap TI (.ref i1) (.ref i2) ∧ (∃ a b, IsPair s.heap TO a b) ∧ s.heap.IsListIter i1 l1 0 ∧ s.heap.IsListIter i2 l2 0 ∧ s.heap.IsList l1 xs ∧ s.heap.IsList l2 ys)
    (hS : s.heap.get? S = some { cls := .type "list", data := .seq #[] })
    (hR : ∀ h' tk acc c (as : List Addr), (∀ b o, b ≠ S → b ≠ z → b ≠ TO → b ≠ i1 → b ≠ i2 → s.heap.get? b = some o → h'.get? b = some o) → h'.get? S = some { cls := .type "list", dict := none, data := .seq acc c, slots := #[] } → as.length = xs.size → LzG xs ys S h' as →
      acc.toList = as.map Value.ref → R (.ok (.ret .none)) { s with heap := h', toks := tk }) :
    wpAny (model prog w) A.in1 (Builtin.«list.__init__» ⟨[.ref S, .ref z], []⟩)
      (fun fin s' => match fin with | .done f => R (.ok f) s' | .again c' => c'.quiet = true ∧ codeAny (model prog w) A c' R s') (fun e s' => R (.error e) s') s := by
  show wpAny _ _ (do let old ← Builtin.List.listItems (.ref S); Builtin.List.listUpdate (.ref S) (fun _ => #[]); letGo old.toList.reverse; Builtin.List.listExtendWith (.ref S) (.ref z) .none) _ _ s
  refine wpAny_bind ?_
  unfold Builtin.List.listItems
  refine wpAny_bind (wpAny_seqItems hS rfl (wpAny_pure ?_))
  show wpAny _ _ (updateSeq S (fun _ => #[]) >>= fun _ => letGo (#[] : Array Value).toList.reverse >>= fun _ => Builtin.List.listExtendWith (.ref S) (.ref z) .none) _ _ s
  refine wpAny_bind (wpAny_updateSeq hS rfl ?_)
  have hS₂ := Heap.get?_update_self (Obj.mapSeq (fun _ => (#[] : Array Value))) hS rfl
  have oth : ∀ b o, b ≠ S → s.heap.get? b = some o → (s.heap.update S (Obj.mapSeq (fun _ => (#[] : Array Value)))).get? b = some o :=
    fun b o hb e => (Heap.get?_update_other _ _ (Ne.symm hb)).trans e
  refine wpAny_bind (wpAny_letGo ?_)
  obtain ⟨hz, hTI, ⟨a, b, hTO⟩, hi1, hi2, hl1, hl2⟩ := ok
  refine lz_extend hh D S P hxy hn .none _ ⟨oth _ _ (Nat.ne_of_lt P.z) hz, oth _ _ (Nat.ne_of_lt P.TI) hTI, ⟨a, b, oth _ _ (Nat.ne_of_lt P.TO) hTO⟩, hi1.at fun o e => oth _ o (Nat.ne_of_lt P.i1) e, hi2.at fun o e => oth _ o (Nat.ne_of_lt P.i2) e, hl1.at fun o e => oth _ o (Nat.ne_of_lt P.l1) e, hl2.at fun o e => oth _ o (Nat.ne_of_lt P.l2) e⟩ hS₂ fun h' tk acc c as hk hS' hl hG hacc => ?_
  exact hR h' tk acc c as (fun b o n0 n1 n2 n3 n4 e => hk b o n0 n1 n2 n3 n4 (oth b o n0 e)) hS' hl hG hacc
/-- list(a zip of two lists of one length) -/
theorem call_list_zip {Q : Value → Shared → Prop} (hh : A.handled = none) (D : ZipApart z TI TO i1 i2 l1 l2) (hxy : xs.size = ys.size) (hn : xs.size ≤ sizeLine)
    (ok : IsZip s.heap z TI TO .none ∧ IsPair s.heap TI (.ref i1) (.ref i2) ∧ (∃ a b, IsPair s.heap TO a b) ∧ s.heap.IsListIter i1 l1 0 ∧ s.heap.IsListIter i2 l2 0 ∧ s.heap.IsList l1 xs ∧ s.heap.IsList l2 ys)
    (hQ : ∀ h' tk acc c (as : List Addr), (∀ b o, b ≠ z → b ≠ TO → b ≠ i1 → b ≠ i2 → s.heap.get? b = some o → h'.get? b = some o) → h'.get? s.heap.objs.size = some { cls := .type "list", dict := none, data := .seq acc c, slots := #[] } → as.length = xs.size → LzG xs ys s.heap.objs.size h' as →
      acc.toList = as.map Value.ref → Q (.ref s.heap.objs.size) { s with heap := h', toks := tk }) :
    wpAny (model prog w) A (call (.type "list") [.ref z]) Q E s := by
  refine callType_codes (Q₁ := fun obj s₁ => obj = .ref s.heap.objs.size ∧ s₁ = { s with heap := s.heap.push { cls := .type "list", data := .seq #[] } }) PySem.F.called_list (PySem.F.typeCall_list_1 _) PySem.F.entry_list_init
    (code_list_new _ ⟨rfl, rfl⟩) fun obj s₁ h₁ => ?_
  obtain ⟨rfl, rfl⟩ := h₁
  have hS : (s.heap.push { cls := .type "list", data := .seq #[] }).get? s.heap.objs.size = some { cls := .type "list", data := .seq #[] } := Heap.get?_push_size _ rfl
  obtain ⟨hz, hTI, ⟨a, b, hTO⟩, hi1, hi2, hl1, hl2⟩ := ok
  have lo : ∀ {b o}, s.heap.get? b = some o → b < s.heap.objs.size := fun e => Heap.lt_size e
  have P : LzAp z TI TO i1 i2 l1 l2 s.heap.objs.size := ⟨lo hz, lo hTI, lo hTO, let ⟨_, e, _⟩ := hi1; lo e, let ⟨_, e, _⟩ := hi2; lo e, let ⟨_, e, _⟩ := hl1; lo e, let ⟨_, e, _⟩ := hl2; lo e⟩
  have pu : ∀ {b o}, s.heap.get? b = some o → (s.heap.push { cls := .type "list", data := .seq #[] }).get? b = some o := fun e => Heap.get?_push_of_some _ e
  refine ⟨⟨_, hS, rfl⟩, PySem.F.args_list_init_2 _ _, lz_init (A := A.in1) hh D _ P hxy hn ⟨pu hz, pu hTI, ⟨a, b, pu hTO⟩, hi1.at fun o e => pu e, hi2.at fun o e => pu e, hl1.at fun o e => pu e, hl2.at fun o e => pu e⟩ hS (fun h' tk acc c as hk hS' hl hG hacc => ?_)⟩
  exact ⟨rfl, hQ h' tk acc c as (fun b o n1 n2 n3 n4 e => hk b o (Nat.ne_of_lt (lo e)) n1 n2 n3 n4 (pu e)) hS' hl hG hacc⟩
end
end PySem
/-! list(zip(a, b)): the rule. -/
namespace Py
open PySem PySem.Spec PyProof.Rows L2
/-- many new objects tracked -/
def layAll (L : List (Addr × HO)) (H : Hp) : Hp := L.foldl (fun H q => upd H q.1 q.2) H
theorem layAll_ne : ∀ {L : List (Addr × HO)} {H : Hp} {c : Addr}, c ∉ L.map (·.1) → layAll L H c = H c
  | [], H, c, _ => rfl
  | q :: L, H, c, n => by
    show layAll L (upd H q.1 q.2) c = _
    rw [List.map_cons, List.mem_cons, not_or] at n
    rw [layAll_ne n.2, upd_ne n.1]
theorem layAll_at : ∀ {L : List (Addr × HO)} {H : Hp} {q : Addr × HO}, (L.map (·.1)).Nodup → q ∈ L → layAll L H q.1 = some q.2
  | q0 :: L, H, q, nd, m => by
    rw [List.map_cons, List.nodup_cons] at nd
    show layAll L (upd H q0.1 q0.2) q.1 = _
    rcases List.mem_cons.mp m with rfl | m
    · rw [layAll_ne nd.1, upd_same]
    · exact layAll_at nd.2 m
section
variable {X : Cx}
theorem inv_layAll {pins : List (Addr × Obj)} {σ : L2.St} : ∀ (L : List (Addr × HO)) {H : Hp} {s : Shared} {h' : Heap} {t' : Nat}, L2.Inv X pins σ H s → (∀ b u, s.heap.get? b = some u → h'.get? b = some u) → (L.map (·.1)).Nodup →
    (∀ q ∈ L, s.heap.get? q.1 = none ∧ H q.1 = none ∧ ∀ (H' : Hp) (G : Heap), G.get? q.1 = h'.get? q.1 → ObjOk X.prog X.w H' G q.1 q.2) → L2.Inv X pins σ (layAll L H) { s with heap := h', toks := t' }
  | [], H, s, h', t', I, k, _, _ => I.kept k
  | q :: L, H, s, h', t', I, k, nd, hq => by
    rw [List.map_cons, List.nodup_cons] at nd
    obtain ⟨G, g1, g2⟩ := restrict h' fun b => !(L.map (·.1)).contains b
    have inL : ∀ {b : Addr}, (L.map (·.1)).contains b = true → s.heap.get? b = none := fun {b} hb => by
      obtain ⟨q2, m2, rfl⟩ := List.mem_map.mp (List.contains_iff_mem.mp hb)
      exact (hq q2 (List.mem_cons_of_mem _ m2)).1
    have k1 : ∀ b u, s.heap.get? b = some u → G.get? b = some u := fun b u e => by
      cases hc : (L.map (·.1)).contains b with
      | true => rw [inL hc] at e; cases e
      | false => rw [g1 b (by rw [hc]; rfl)]; exact k b u e
    have k2 : ∀ b u, G.get? b = some u → h'.get? b = some u := fun b u e => by
      cases hc : (L.map (·.1)).contains b with
      | true => rw [g2 b (by rw [hc]; rfl)] at e; cases e
      | false => rw [← g1 b (by rw [hc]; rfl)]; exact e
    obtain ⟨n1, n2, ok⟩ := hq q (List.mem_cons_self ..)
    have hc0 : (L.map (·.1)).contains q.1 = false := by
      cases hc : (L.map (·.1)).contains q.1 with
      | true => exact absurd (List.contains_iff_mem.mp hc) nd.1
      | false => rfl
    have I1 : L2.Inv X pins σ (upd H q.1 q.2) { s with heap := G, toks := s.toks } := I.laidN k1 n1 n2 (ok _ _ (g1 _ (by rw [hc0]; rfl)))
    refine inv_layAll L (s := { s with heap := G, toks := s.toks }) I1 k2 nd.2 fun q2 m2 => ?_
    obtain ⟨b1, b2, b3⟩ := hq q2 (List.mem_cons_of_mem _ m2)
    have m2' := List.mem_map_of_mem (f := fun q : Addr × HO => q.1) m2
    refine ⟨g2 _ (by rw [List.contains_iff_mem.mpr m2']; rfl), ?_, b3⟩
    show upd H q.1 q.2 q2.1 = none
    rw [upd_ne (fun z => nd.1 (by rw [← z]; exact m2'))]
    exact b2
/-- the tuples of a list of pairs -/
def tupsL (as : List Addr) (us ws : List V) : List (Addr × HO) := as.zip ((us.zip ws).map fun q => HO.tup [q.1, q.2])
/-- list(zip(a, b)) of lists of one length -/
def tListZip (K : PySem.W.Frag) (ta : TA) : TE := fun σ H Q => ta σ H fun vs H1 => ∃ (a b : Addr) (us ws : List V), vs = [.ref a, .ref b] ∧ SqL K H1 a us ∧ SqL K H1 b ws ∧ us.length = ws.length ∧
  ∀ (p : Addr) (as : List Addr), p ∉ as → as.Nodup → as.length = us.length → (∀ c ∈ p :: as, H1 c = none) → Q (.ref p) (upd (layAll (tupsL as us ws) H1) p (.lst (as.map V.ref)))
theorem vals_refsL : ∀ bs : List Addr, Vals (bs.map V.ref) (bs.map Value.ref)
  | [] => .nil
  | b :: bs => .cons rfl (vals_refsL bs)
theorem vals_at : ∀ {us : List V} {its : List Value} {j : Nat} {u : V} {x : Value}, Vals us its → us[j]? = some u → its[j]? = some x → RelV u x
  | [], _, j, u, x, r, e, _ => by cases e
  | v :: us, its, j, u, x, r, e1, e2 => by
    cases r with
    | cons a r =>
      cases j with
      | zero => cases (show v = u by simpa using e1); cases (show _ = x by simpa using e2); exact a
      | succ j => exact vals_at r (by simpa using e1) (by simpa using e2)
theorem pe_listZip {p p2 pos pos2 : Pos} {e e2 : Expr} {ta : TA} (hc : X.calm = true) (hd : Gl X "list") (hmd : X.mg "list" = none) (hg : Gl X "zip") (hm : X.mg "zip" = none) (ha : PA X [e, e2] ta)
    (hs : starEach [e, e2] X.env = (false, eval e X.env) :: starEach [e2] X.env := by rfl) (hpl : (backTo pos2 (starEach [e2] X.env)).any (·.1) = false := by rfl) :
    PE X (.Call (.Name "list" p) [.Call (.Name "zip" p2) [e, e2] [] pos2] [] pos) (tListZip X.K ta) := by
  refine ⟨fun pins s σ H Q I h => ?_⟩
  refine Call_ (ld_blt I hd hmd boot_list (PyProof.Rows.callWith_type1 (args_cons (thn (Q := fun x s' => ∃ (H1 : Hp) (s1 : Shared) (a b : Addr) (us ws : List V) (its its2 : List Value), x = .ref (s1.heap.objs.size + 4) ∧ L2.Inv X pins σ H1 s1 ∧ Vals us its ∧ Vals ws its2 ∧ us.length ≤ sizeLine ∧ us.length = ws.length ∧
      a < s1.heap.objs.size ∧ b < s1.heap.objs.size ∧ s1.heap.objs.size ≤ s'.heap.objs.size ∧ s' = { s1 with heap := s'.heap } ∧ (∀ c o, s1.heap.get? c = some o → s'.heap.get? c = some o) ∧
      (IsZip s'.heap (s1.heap.objs.size + 4) (s1.heap.objs.size + 2) (s1.heap.objs.size + 3) .none ∧ IsPair s'.heap (s1.heap.objs.size + 2) (.ref s1.heap.objs.size) (.ref (s1.heap.objs.size + 1)) ∧ (∃ a b, IsPair s'.heap (s1.heap.objs.size + 3) a b) ∧ s'.heap.IsListIter s1.heap.objs.size a 0 ∧ s'.heap.IsListIter (s1.heap.objs.size + 1) b 0 ∧ s'.heap.IsList a its.toArray ∧ s'.heap.IsList b its2.toArray) ∧
      ∀ (p : Addr) (as : List Addr), p ∉ as → as.Nodup → as.length = us.length → (∀ c ∈ p :: as, H1 c = none) → Q (.ref p) (upd (layAll (tupsL as us ws) H1) p (.lst (as.map V.ref)))) (Call_ (ld_blt I hg hm PyProof.Rows.boot_zip (PyProof.Rows.callWith_type1 (thn (ha.run pos2 pins s σ H _ I h) fun us s1 ⟨vs, H1, I1, r1, q1⟩ => ?_) hs hpl))) fun x s' hx => args_nil ?_) (by rfl)) (by rfl)))
  · obtain ⟨a, b, us', ws, ex, hqx, hqy, hl, q⟩ := q1
    subst ex
    cases r1 with
    | cons r rr =>
      cases rr with
      | cons r' rr =>
        cases rr
        cases r
        cases r'
        obtain ⟨its, rv, p1, z1⟩ := I1.list hqx
        obtain ⟨its2, rv2, p2, _⟩ := I1.list hqy
        have la : a < s1.heap.objs.size := p1.lt
        have lb : b < s1.heap.objs.size := p2.lt
        refine call_zip_2 p1.isList p2.isList fun h' hz hTI hTO h1 h2 hsz hk => ?_
        exact ⟨H1, s1, a, b, us', ws, its, its2, rfl, I1, rv, rv2, z1, hl, la, lb, by show _ ≤ h'.objs.size; omega, rfl, hk, ⟨hz, hTI, ⟨_, _, hTO⟩, h1, h2, p1.isList.at fun o q => hk _ o q, p2.isList.at fun o q => hk _ o q⟩, q⟩
  · obtain ⟨H1, s1, a, b, us, ws, its, its2, rfl, I1, rv, rv2, zl, hl, la, lb, ls, es, hk, ok, q⟩ := hx
    have D := PySem.W.ktu_apart s1.heap.objs.size a b la lb
    have l1 := rv.length
    have l2 := rv2.length
    refine PySem.call_list_zip (I1.ok.hd hc) D (by simp; omega) (by simp; omega) ok fun h' tk acc c as kk hS hal hG hacc => ?_
    have keep : ∀ c o, s1.heap.get? c = some o → h'.get? c = some o := fun c o e => by
      have lc := Heap.lt_size e
      refine kk c o ?_ ?_ ?_ ?_ (hk c o e) <;> (intro z; rw [z] at lc; exact absurd lc (Nat.not_lt.mpr (by first | exact Nat.le_refl _ | exact Nat.le_add_right _ _)))
    have nd : as.Nodup := hG.rise.imp Nat.ne_of_lt
    have hal : as.length = us.length := by rw [hal, List.size_toArray, l1]
    have nS : s'.heap.objs.size ∉ as := fun m => Nat.lt_irrefl _ (hG.above _ m)
    have none1 : ∀ c, s1.heap.objs.size ≤ c → s1.heap.get? c = none := fun c lc => by
      cases e : s1.heap.get? c with
      | none => rfl
      | some o => exact absurd (Heap.lt_size e) (Nat.not_lt.mpr lc)
    have big : ∀ c ∈ s'.heap.objs.size :: as, s1.heap.objs.size ≤ c := fun c m => by
      rcases List.mem_cons.mp m with rfl | m
      · exact ls
      · exact Nat.le_trans ls (Nat.le_of_lt (hG.above c m))
    have free : ∀ c ∈ s'.heap.objs.size :: as, H1 c = none := fun c m => I1.hok.fresh (big c m)
    have fst : (tupsL as us ws).map (·.1) = as := by
      unfold tupsL
      rw [List.map_fst_zip]
      rw [List.length_map, List.length_zip]; omega
    have lay : layAll (tupsL as us ws ++ [(s'.heap.objs.size, .lst (as.map V.ref))]) H1 = upd (layAll (tupsL as us ws) H1) s'.heap.objs.size (.lst (as.map V.ref)) := by
      unfold layAll
      rw [List.foldl_append]; rfl
    refine ⟨.ref s'.heap.objs.size, _, ?_, rfl, q s'.heap.objs.size as nS nd hal free⟩
    rw [es, ← lay]
    show L2.Inv X pins σ (layAll (tupsL as us ws ++ [(s'.heap.objs.size, .lst (as.map V.ref))]) H1) { s1 with heap := h', toks := tk }
    refine inv_layAll _ (s := s1) (t' := tk) I1 keep ?_ fun q2 m2 => ?_
    · rw [List.map_append, fst]
      exact List.nodup_append.mpr ⟨nd, by simp, fun a ha b hb z => nS (by have hb := List.mem_singleton.mp hb; rw [z, hb] at ha; exact ha)⟩
    · rcases List.mem_append.mp m2 with m2 | m2
      · have ma : q2.1 ∈ as := by rw [← fst]; exact List.mem_map_of_mem (f := fun q : Addr × HO => q.1) m2
        refine ⟨none1 _ (big _ (List.mem_cons_of_mem _ ma)), free _ (List.mem_cons_of_mem _ ma), fun H' G e => ?_⟩
        obtain ⟨j, hj⟩ := List.mem_iff_getElem?.mp m2
        unfold tupsL at hj
        obtain ⟨hj1, hj2⟩ := List.getElem?_zip_eq_some.mp hj
        rw [List.getElem?_map] at hj2
        obtain ⟨⟨u, v⟩, hj3, hj4⟩ := Option.map_eq_some_iff.mp hj2
        obtain ⟨hu, hv⟩ := List.getElem?_zip_eq_some.mp hj3
        obtain ⟨x, y, ex, ey, ep⟩ := hG.pairs j q2.1 hj1
        rw [← hj4]
        exact ⟨by show 2 ≤ sizeLine; rw [sizeLine_eq]; decide, [x, y], .cons (vals_at rv hu (by simpa using ex)) (.cons (vals_at rv2 hv (by simpa using ey)) .nil), ⟨_, e.trans ep, rfl, _, rfl⟩⟩
      · cases List.mem_singleton.mp m2
        refine ⟨none1 _ ls, free _ (List.mem_cons_self ..), fun H' G e => ?_⟩
        refine ⟨by rw [List.length_map, hal]; exact zl, as.map Value.ref, c, vals_refsL as, ?_⟩
        rw [e, hS, ← hacc, Array.toArray_toList]
end
section
variable {M : Mo}
theorem rh_lay {m : List Addr} {h : PH} : ∀ {L : List (Addr × HO)} {H : Hp}, RH M H m h → (L.map (·.1)).Nodup → (∀ q ∈ L, H q.1 = none) → RH M (layAll L H) m h ∧ Kp M.K H (layAll L H)
  | [], H, r, _, _ => ⟨r, Kp.refl _ _⟩
  | q :: L, H, r, nd, f => by
    rw [List.map_cons, List.nodup_cons] at nd
    have f0 := f q (List.mem_cons_self ..)
    obtain ⟨z1, z2⟩ := rh_lay (L := L) (r.tup (u := q.2) f0) nd.2 fun q2 m2 => by
      rw [upd_ne (fun z => nd.1 (by rw [← z]; exact List.mem_map_of_mem (f := fun q : Addr × HO => q.1) m2))]
      exact f q2 (List.mem_cons_of_mem _ m2)
    exact ⟨z1, (Kp.upd_new f0).trans z2⟩
theorem zip_rv {K : PySem.W.Frag} {H : Hp} {m : List Addr} : ∀ {xs ys : List PV} {us ws : List V} {as : List Addr}, RVs K H m xs us → RVs K H m ys ws → xs.length = ys.length → as.length = us.length → (∀ (j : Nat) (a : Addr) (u w : V), as[j]? = some a → us[j]? = some u → ws[j]? = some w → H a = some (.tup [u, w])) → RVs K H m (zipT xs ys) (as.map V.ref)
  | [], [], us, ws, as, r1, _, _, l, _ => by
    cases (show us = [] from r1)
    cases as with
    | nil => rfl
    | cons => cases l
  | [], _ :: _, _, _, _, _, _, e, _, _ => by cases e
  | _ :: _, [], _, _, _, _, _, e, _, _ => by cases e
  | x :: xs, y :: ys, us, ws, as, r1, r2, e, l, f => by
    obtain ⟨u, us', rfl, h1, r1⟩ := r1
    obtain ⟨w, ws', rfl, h2, r2⟩ := r2
    cases as with
    | nil => cases l
    | cons a as =>
      refine ⟨.ref a, as.map V.ref, rfl, ⟨a, [u, w], rfl, .inl (.inl (f 0 a u w rfl rfl rfl)), u, [w], rfl, h1, w, [], rfl, h2, rfl⟩, ?_⟩
      exact zip_rv r1 r2 (by simpa using e) (by simpa using l) fun j a' u' w' e1 e2 e3 => f (j + 1) a' u' w' (by simpa using e1) (by simpa using e2) (by simpa using e3)
theorem tups_fst {as : List Addr} {us ws : List V} (l : as.length = us.length) (l2 : us.length = ws.length) : (tupsL as us ws).map (·.1) = as := by
  unfold tupsL
  rw [List.map_fst_zip]
  rw [List.length_map, List.length_zip]; omega
theorem tups_at {as : List Addr} {us ws : List V} {j : Nat} {a : Addr} {u w : V} (e1 : as[j]? = some a) (e2 : us[j]? = some u) (e3 : ws[j]? = some w) : (a, HO.tup [u, w]) ∈ tupsL as us ws := by
  refine List.mem_iff_getElem?.mpr ⟨j, ?_⟩
  unfold tupsL
  rw [List.getElem?_zip_eq_some]
  refine ⟨e1, ?_⟩
  have z : (us.zip ws)[j]? = some (u, w) := List.getElem?_zip_eq_some.mpr ⟨e2, e3⟩
  rw [List.getElem?_map, z]
  rfl
end
end Py

set_option Elab.async false
set_option linter.all false
set_option maxRecDepth 100000
set_option maxHeartbeats 4000000
/-! PySound3: expressions. -/
namespace Py
open PySem PySem.Spec PyProof.Rows L2

/-! ### the match of our syntax with the text's -/
abbrev Sco := List (Str × NameKind)
def glB (sc : Sco) (x : Str) : Bool := (match sc.lookup x with
  | some .globalImplicit => true
  | _ => false) && !(x == ("__debug__" : Str))
def visB (sc : Sco) (x : Str) : Bool := match sc.lookup x with
  | some .local => true
  | some .cell => true
  | some .free => true
  | _ => false
def bopB (o : BO) (p : Operator) : Bool := decide (bopOf o = p)
def bfNm : BF → Str
  | .len => "len" | .list1 => "list" | .tuple1 => "tuple" | .tuple0 => "tuple" | .min2 => "min" | .max2 => "max" | .minL => "min" | .maxL => "max" | .sumL => "sum" | .abs => "abs" | .int1 => "int" | .str1 => "str" | .repr1 => "repr"
  | .sorted1 => "sorted" | .all1 => "all" | .dict1 => "dict" | .dict0 => "dict" | .listD => "list" | .sortD => "sorted" | .dictD => "dict" | .dictT => "dict" | .tupleP => "tuple" | _ => "isinstance"
def isTyB : BF → Bool
  | .isInt => true | .isBool => true | .isStr => true | .isList => true | .isTuple => true | _ => false
def plainT : Expr → Bool
  | .BoolOp .. => false
  | .UnaryOp .Not _ _ => false
  | .Compare .. => false
  | .NamedExpr .. => false
  | .IfExp .. => false
  | _ => true
def locB (dc : Bool) (sc : Sco) (x : Str) : Bool := match sc.lookup x with
  | some .local => true
  | some .cell => dc
  | _ => false
def notSet : Expr → Bool
  | .Set .. => false
  | _ => true
def baseB : Expr → Bool
  | .Call (.Name _ _) [] [] _ => false
  | _ => true
def bmNm : BM → Str
  | .append => "append" | .extend => "extend" | .pop0 => "pop" | .pop1 => "pop" | .insert => "insert" | .reverse => "reverse" | .clear => "clear" | .index => "index" | .indexX => "index" | .sindex => "index" | .get1 => "get" | .get2 => "get" | .join => "join" | .split => "split" | .startswith => "startswith" | .update => "update" | .isalnum => "isalnum" | .upper => "upper"
/-- a built-in method that is read here, by its number of arguments -/
def bmB : BM → Nat → Bool
  | .append, 1 => true
  | .insert, 2 => true
  | .index, 1 => true
  | .indexX, 1 => true
  | .extend, 1 => true
  | .pop0, 0 => true
  | .reverse, 0 => true
  | .clear, 0 => true
  | .pop1, 1 => true
  | .join, 1 => true
  | .split, 1 => true
  | .startswith, 1 => true
  | .isalnum, 0 => true
  | .upper, 0 => true
  | .sindex, 1 => true
  | _, _ => false
mutual
/-- names alone -/
def tnB : T → Bool
  | .nm _ => true
  | .tup ts => tnsB ts
  | _ => false
def tnsB : Ts → Bool
  | .nil => true
  | .cons t ts => tnB t && tnsB ts
end
def relB (scope : Scope) (sc : Sco) : Sco := scope.names.map fun (n, k) => if (k == .free && (sc.lookup n) == some .cell) then (n, .cell) else (n, k)
def ownOf (N : List Str) (t : T) : List (Str × Nat) := (tNs t).map fun i => (N.getD i "", i)
def blkB (N : List Str) (sc : Sco) (scope : Scope) (own : List (Str × Nat)) : Bool := blkC N { scope with names := sc } scope own
def kwB (M : Me) (c : Nat) (kn : Str) : Bool := match M.G.cls c with
  | some cd => (match M.G.fn cd.init with
    | some d => decide (d.kw.map M.nm = some kn) && !cd.bare
    | none => false)
  | none => false
def iniB (M : Me) (c : Nat) : Bool := match M.G.cls c with
  | some cd => cd.base && !cd.bare
  | none => false
def mkB (M : Me) (c : Nat) : Bool := match M.G.cls c with
  | some cd => !cd.bare
  | none => false
def mk0B (M : Me) (c : Nat) : Bool := match M.G.cls c with
  | some cd => cd.bare
  | none => false
mutual
def mE (M : Me) (N : List Str) (sc : Sco) : E → Expr → Bool
  | .var i, .Name x _ => decide (N[i]? = some x) && visB sc x && !(x == ("__debug__" : Str)) && !(x == ("__classdict__" : Str))
  | .int i, .Constant (.int j) _ _ => decide (i = j)
  | .str s, .Constant (.str t) _ _ => decide (s = t)
  | .bl b, .Constant (.bool c) _ _ => decide (b = c)
  | .non, .Constant .none _ _ => true
  | .glob g, .Name x _ => decide (M.nm g = x) && glB sc x
  | .bin o a b, .BinOp x p y _ => bopB o p && mE M N sc a x && mE M N sc b y
  | .neg a, .UnaryOp .USub x _ => mE M N sc a x
  | .nt a, .UnaryOp .Not x _ => mE M N sc a x
  | .and a b, .BoolOp .And (x :: y :: r) p => mE M N sc a x && (match r with
    | [] => mE M N sc b y
    | _ => mE M N sc b (.BoolOp .And (y :: r) p))
  | .or a b, .BoolOp .Or (x :: y :: r) p => mE M N sc a x && (match r with
    | [] => mE M N sc b y
    | _ => mE M N sc b (.BoolOp .Or (y :: r) p))
  | .cmp o a b, .Compare x [p] [y] _ => decide (copOf o = p) && !behindInMarks p y && mE M N sc a x && mE M N sc b y
  | .chain o o' a b c, .Compare x [p, p'] [y, z] _ => decide (copOf o = p) && decide (copOf o' = p') && !lastMarks [p, p'] [y, z] && mE M N sc a x && mE M N sc b y && mE M N sc c z
  | .ite c a b, .IfExp x y z _ => mC M N sc c x && mE M N sc a y && mE M N sc b z
  | .tup es, .Tuple xs _ _ => mEs M N sc es xs
  | .lst es, .List xs _ => mEs M N sc es xs
  | .idx a b, .Subscript x y _ => mE M N sc a x && mE M N sc b y
  | .dxi a b, .Subscript x y _ => mE M N sc a x && mE M N sc b y
  | .slc a lo hi, .Subscript x (.Slice l u none _) _ => mE M N sc a x && mO M N sc lo l && mO M N sc hi u
  | .call f es, .Call (.Name x _) xs [] _ => (M.gf f && (M.G.fn f).isSome) && (decide (M.nm f = x) && (glB sc x && mEs M N sc es xs))
  | .isi f a, .Call (.Name x _) [y, .Name t _] [] _ => (isTyB f && glB sc x) && ((decide (bfNm f = x) && decide (t = Str.ofString (tyOf f))) && (glB sc t && mE M N sc a y))
  | .bf f (.cons e r), .Call (.Name x _) xs [] _ => (!isTyB f && glB sc x) && (decide (bfNm f = x) && mEs M N sc (.cons e r) xs)
  | .attr a f, .Attribute x y _ => (decide (M.nm f = y) && baseB x) && mE M N sc a x
  | .mk c es, .Call (.Name x _) xs [] _ => mkB M c && (decide (M.nm c = x) && (glB sc x && mEs M N sc es xs))
  | .mkK c es e, .Call (.Name x _) xs [⟨some kn, y, _⟩] _ => (((M.G.cls c).isSome && kwB M c kn) && (decide (M.nm c = x) && !xs.isEmpty)) && (glB sc x && (mEs M N sc es xs && mE M N sc e y))
  | .mk0 c, .Call (.Name x _) [] [] _ => mk0B M c && (decide (M.nm c = x) && glB sc x)
  | .lzip a b, .Call (.Name x _) [.Call (.Name y _) [z, w] [] _] [] _ => (decide (x = ("list" : Str)) && glB sc x) && ((decide (y = ("zip" : Str)) && glB sc y) && (mE M N sc a z && mE M N sc b w))
  | .dzip a b, .Call (.Name x _) [.Call (.Name y _) [z, w] [] _] [] _ => (decide (x = ("dict" : Str)) && glB sc x) && ((decide (y = ("zip" : Str)) && glB sc y) && (mE M N sc a z && mE M N sc b w))
  | .lrg1 a, .Call (.Name x _) [.Call (.Name y _) [z] [] _] [] _ => (decide (x = ("list" : Str)) && glB sc x) && ((decide (y = ("range" : Str)) && glB sc y) && mE M N sc a z)
  | .dicl ks vs, .Dict keys xs _ => (keys.all (·.isSome) && (decide (keys.length = xs.length) && (!keys.isEmpty && decide (keys.length ≤ 15)))) && mPs M N sc ks vs keys xs
  | .slr a, .Subscript x (.Slice none none (some (.UnaryOp .USub (.Constant (.int j) _ _) _)) _) _ => decide (j = 1) && mE M N sc a x
  | .dic0, .Dict [] [] _ => true
  | .lke e, x => mE M N sc e x
  | .co e, x => mE M N sc e x
  | .dg1 o a, .Call (.Attribute y x p) [z] [] q => (decide (x = ("get" : Str)) && (p.endLine == q.line)) && (baseB y && (mE M N sc o y && mE M N sc a z))
  | .dup o a, .Call (.Attribute y x p) [z] [] q => (decide (x = ("update" : Str)) && (p.endLine == q.line)) && (baseB y && (mE M N sc o y && mE M N sc a z))
  | .dget o a b, .Call (.Attribute y x p) [z, w] [] q => (decide (x = ("get" : Str)) && (p.endLine == q.line)) && (baseB y && (mE M N sc o y && (mE M N sc a z && mE M N sc b w)))
  | .meth o m es, .Call (.Attribute y x p) xs [] q => (decide (M.nm m = x) && ((p.endLine == q.line) && decide (xs.length < 30))) && (baseB y && (mE M N sc o y && mEs M N sc es xs))
  | .ini c es, .Call (.Attribute (.Name x _) y p) xs [] q => ((iniB M c && decide (M.nm c = x)) && (glB sc x && decide (y = ("__init__" : Str)))) && (((p.endLine == q.line) && (decide (xs.length < 30) && !xs.isEmpty)) && mEs M N sc es xs)
  | .bm f o es, .Call (.Attribute y x p) xs [] q => (bmB f xs.length && (decide (bmNm f = x) && (p.endLine == q.line))) && (baseB y && (mE M N sc o y && mEs M N sc es xs))
  | .lc elt t it cond, .ListComp x [⟨tg, iter, ifs, ia⟩] scope _ => ((ia == 0) && (tnB t && blkB N sc scope (ownOf N t))) && (mI M N sc tg it iter && (mT M false N (relB scope sc) t tg && (mOC M N (relB scope sc) cond ifs && mE M N (relB scope sc) elt x)))
  | _, _ => false
def mEs (M : Me) (N : List Str) (sc : Sco) : Es → List Expr → Bool
  | .nil, [] => true
  | .cons e es, x :: xs => mE M N sc e x && mEs M N sc es xs
  | _, _ => false
def mPs (M : Me) (N : List Str) (sc : Sco) : List Str → Es → List (Option Expr) → List Expr → Bool
  | [], .nil, [], [] => true
  | k :: ks, .cons e es, some (.Constant (.str t) _ _) :: kx, x :: xs => (decide (k = t) && mE M N sc e x) && mPs M N sc ks es kx xs
  | _, _, _, _ => false
def mO (M : Me) (N : List Str) (sc : Sco) : OE → Option Expr → Bool
  | .no, none => true
  | .so e, some x => mE M N sc e x
  | _, _ => false
def mC (M : Me) (N : List Str) (sc : Sco) : C → Expr → Bool
  | .v e, x => mE M N sc e x && plainT x
  | .cmp o a b, .Compare x [p] [y] _ => decide (copOf o = p) && !behindInMarks p y && mE M N sc a x && mE M N sc b y
  | .chain o o' a b c, .Compare x [p, p'] [y, z] _ => decide (copOf o = p) && decide (copOf o' = p') && !lastMarks [p, p'] [y, z] && mE M N sc a x && mE M N sc b y && mE M N sc c z
  | .nt a, .UnaryOp .Not x _ => mC M N sc a x
  | .and a b, .BoolOp .And (x :: y :: r) p => mC M N sc a x && (match r with
    | [] => mC M N sc b y
    | _ => mC M N sc b (.BoolOp .And (y :: r) p))
  | .or a b, .BoolOp .Or (x :: y :: r) p => mC M N sc a x && (match r with
    | [] => mC M N sc b y
    | _ => mC M N sc b (.BoolOp .Or (y :: r) p))
  | _, _ => false
def mOC (M : Me) (N : List Str) (sc : Sco) : OC → List Expr → Bool
  | .no, [] => true
  | .so c, [x] => mC M N sc c x
  | _, _ => false
def mI (M : Me) (N : List Str) (sc : Sco) (tg : Expr) : I → Expr → Bool
  | .rng1 a, .Call (.Name x _) [y] [] _ => (decide (x = ("range" : Str)) && glB sc x) && mE M N sc a y
  | .rng2 a b, .Call (.Name x _) [y, z] [] _ => (decide (x = ("range" : Str)) && glB sc x) && (mE M N sc a y && mE M N sc b z)
  | .enu a, .Call (.Name x _) [y] [] _ => (decide (x = ("enumerate" : Str)) && glB sc x) && (mE M N sc a y && (match tg with
    | .Tuple .. => true
    | _ => false))
  | .zip2 a b, .Call (.Name x _) [y, z] [] _ => (decide (x = ("zip" : Str)) && glB sc x) && ((mE M N sc a y && mE M N sc b z) && (match tg with
    | .Tuple .. => true
    | _ => false))
  | .rev a, .Call (.Name x _) [y] [] _ => (decide (x = ("reversed" : Str)) && glB sc x) && mE M N sc a y
  | .seq a, x => mE M N sc a x && notSet x
  | .keys a, x => mE M N sc a x && notSet x
  | _, _ => false
def mT (M : Me) (dc : Bool) (N : List Str) (sc : Sco) : T → Expr → Bool
  | .nm i, .Name x _ => decide (N[i]? = some x) && locB dc sc x
  | .tup ts, .Tuple xs _ _ => mTs M dc N sc ts xs
  | _, _ => false
def mTs (M : Me) (dc : Bool) (N : List Str) (sc : Sco) : Ts → List Expr → Bool
  | .nil, [] => true
  | .cons t ts, x :: xs => mT M dc N sc t x && mTs M dc N sc ts xs
  | _, _ => false
end

/-! ### the context -/
def LE (M : Mo) (E : XK) (m : List Addr) (H : Hp) : KX := fun x h' => ∀ (m' : List Addr) (H' : Hp) (cls : Value) (d : Option Addr), Ex m m' → Kp M.K H H' → RH M H' m' h' → RX M H' m' x cls d → E cls d H'
/-- a def's promise, by our reading of its call -/
def spF (M : Mo) (k : Nat) (f : Nat) (np : Nat) : Sp := fun vs H Q E => ∃ m h args, RH M H m h ∧ RVs M.K H m args vs ∧ args.length = np ∧ callS M.G k (.fn f) args h (LQ M m H Q) (LE M E m H)
structure Glo (M : Mo) (mg : Str → Option Value) : Prop where
  free : ∀ x ∈ bltNames, mg x = none
  con : ∀ g v, M.G.con g = some v → ∃ u w, mg (M.nm g) = some u ∧ RelV w u ∧ ∀ H m, RV M.K H m v w
/-- the arguments that lack -/
def Dfl (M : Mo) (fd : FuncData) (ps : List Str) (d : FD) : Prop := ∀ n, n ≤ d.np → (fill d.dfl (List.replicate n PV.non) d.np).length = d.np →
  ∃ dvs ds, Vals dvs ds ∧ Binds M.K fd ps ds ∧ ∀ H m, RVs M.K H m (d.dfl.drop (d.dfl.length - (d.np - n))) dvs
/-- the last argument handed in by its keyword -/
def Kwd (M : Mo) (fd : FuncData) (ps : List Str) (d : FD) : Prop := ∀ x, d.kw = some x → ∀ n, n + 1 ≤ d.np → d.np - 1 - n ≤ d.dfl.length - 1 →
  ∃ (g : List Value → List Value → List Value) (gV : List V → List V → List V) (mid : List V), KBn M.K fd ps n [M.nm x] g gV ∧ (∀ vs z, vs.length = n → gV vs [z] = vs ++ mid ++ [z]) ∧ ∀ H m, RVs M.K H m (d.dfl.dropLast.drop (d.dfl.length - 1 - (d.np - 1 - n))) mid
/-- a def at a level -/
structure FnC (M : Mo) (P : Program) (w : World) (mg : Str → Option Value) (base : Heap) (k : Nat) (f : Nat) (d : FD) (a : Addr) : Prop where
  ex : ∃ fd ps, FnG P w M.K mg base (L2.CX P w) k a fd ps (spF M k f d.np) ∧ (PySem.W.keepIn M.K (.ref a) = true ∧ Kwd M fd ps d) ∧ Dfl M fd ps d
/-- C.__init__ read off the class is the very def -/
structure InD (K : PySem.W.Frag) (C f : Addr) : Prop where
  rd : PySem.W.readsIn K C (.type "type") = true
  ga : PySem.W.specialIn K (.ref C) "__getattribute__" = some (some (.builtin "type.__getattribute__"))
  at_ : PySem.W.findCls K (.ref C) (.type "type") "__init__" = some (.val (.ref f))
/-- a class without __init__ -/
structure Bare (K : PySem.W.Frag) (C : Addr) : Prop where
  makes : PySem.W.makesIn K C = true
  init : PySem.W.findIn K (.ref C) "__init__" = some (some (.builtin "object.__init__"))
  top : PySem.W.mroIn K C (.type "object") = some true
  kp : PySem.W.keepIn K (.ref C) = true
/-- a class of the text -/
structure ClsOk (M : Mo) (mg : Str → Option Value) (c : Nat) (cd : CD) : Prop where
  cls : Cls M.K (M.ca c)
  noat : ∀ f ∈ cd.fields, NoAttr M.K (M.ca c) (M.nm f)
  inj : ∀ f ∈ cd.fields, ∀ g ∈ cd.fields, M.nm f = M.nm g → f = g
  meth : ∀ m f, getM m cd.meths = some f → Meth M.K (M.ca c) (M.nm m) (M.fa f) ∧ M.nm m ∉ cd.fields.map M.nm ∧ (M.G.fn f).isSome = true
  mak : cd.bare = false → Mk M.K (M.ca c) (M.fa cd.init)
  ini : cd.bare = false → (M.G.fn cd.init).isSome = true
  bar : cd.bare = true → Bare M.K (M.ca c)
  glob : mg (M.nm c) = some (.ref (M.ca c))
  inid : cd.base = true → InD M.K (M.ca c) (M.fa cd.init)
structure Good (M : Mo) (X : Cx) (N : List Str) (sc : Sco) (W : WX) (k : Nat) : Prop where
  hN : X.N = N
  nd : N.Nodup
  hK : X.K = M.K
  sc : X.env.scope.names = sc
  calm : X.calm = true
  tk : Takes X W
  room : Room k X.A
  gd : X.A.guards = some []
  kd : X.env.scope.kind = .function
  glo : Glo M X.mg
  fns : ∀ j, j ≤ k → ∀ f d, M.G.fn f = some d → FnC M X.prog X.w X.mg X.base j f d (M.fa f)
  cls : ∀ c cd, M.G.cls c = some cd → ClsOk M X.mg c cd
  fng : ∀ f, M.gf f = true → X.mg (M.nm f) = some (.ref (M.fa f))

/-! ### readings -/
abbrev De := KX → Loc → PH → KQ → Prop
def tE (M : Mo) (W : WX) (d : De) : TE := fun σ H Q => ∃ m l h, RH M H m h ∧ RL M.K H m l σ ∧ d (LX M W σ m H) l h (LQ M m H Q)
abbrev DA := KX → Loc → PH → (List PV → PH → Prop) → Prop
def tA (M : Mo) (W : WX) (d : DA) : TA := fun σ H Q => ∃ m l h, RH M H m h ∧ RL M.K H m l σ ∧ d (LX M W σ m H) l h (LA M m H Q)
abbrev DT := KX → Loc → PH → (Bool → PH → Prop) → Prop
def tT (M : Mo) (W : WX) (d : DT) : TT := fun σ H Q => ∃ m l h, RH M H m h ∧ RL M.K H m l σ ∧ d (LX M W σ m H) l h (LB M m H Q)
abbrev DO := KX → Loc → PH → (Option Int → PH → Prop) → Prop
def tOp (M : Mo) (W : WX) (d : DO) : TO := fun σ H Q => ∃ m l h, RH M H m h ∧ RL M.K H m l σ ∧ d (LX M W σ m H) l h (LB M m H Q)
theorem _root_.L2.PE.wk {X : Cx} {e : Expr} {t t' : TE} (p : PE X e t) (h : ∀ σ H Q, t' σ H Q → t σ H Q) : PE X e t' := ⟨fun pins s σ H Q I q => p.run pins s σ H Q I (h _ _ _ q)⟩
theorem _root_.L2.PT.wk {X : Cx} {e : Expr} {t t' : TT} (p : PT X e t) (h : ∀ σ H Q, t' σ H Q → t σ H Q) : PT X e t' := ⟨fun pins s σ H Q I q => p.run pins s σ H Q I (h _ _ _ q)⟩
theorem _root_.L2.PW.wk {X : Cx} {e : Expr} {t t' : TT} (p : PW X e t) (h : ∀ σ H Q, t' σ H Q → t σ H Q) : PW X e t' := ⟨fun wh pins s σ H Q I q => p.run wh pins s σ H Q I (h _ _ _ q)⟩
theorem _root_.L2.PA.wk {X : Cx} {e : List Expr} {t t' : TA} (p : PA X e t) (h : ∀ σ H Q, t' σ H Q → t σ H Q) : PA X e t' := ⟨fun pos pins s σ H Q I q => p.run pos pins s σ H Q I (h _ _ _ q)⟩
theorem _root_.L2.PO.wk {X : Cx} {e : Option Expr} {t t' : TO} (p : L2.PO X e t) (h : ∀ σ H Q, t' σ H Q → t σ H Q) : L2.PO X e t' := ⟨fun pins s σ H Q I q => p.run pins s σ H Q I (h _ _ _ q)⟩
section
variable {M : Mo} {W : WX} {σ : L2.St} {m : List Addr} {H : Hp} {l : Loc} {h : PH} {k : Nat}
theorem csle (M : Mo) (k : Nat) : CSle (callS M.G k) (callS M.G k) := callS_le k k (Nat.le_refl k)
theorem tE_in {e : E} {X0 : KX} {K0 : KQ} {Q' : VK} (rh : RH M H m h) (rl : RL M.K H m l σ) (hX : ∀ x h, X0 x h → LX M W σ m H x h) (q : evE M.G (callS M.G k) X0 e l h K0)
    (c : ∀ (m1 : List Addr) (H1 : Hp) (v : PV) (w : V) (h1 : PH), Ex m m1 → Kp M.K H H1 → RH M H1 m1 h1 → RL M.K H1 m1 l σ → RV M.K H1 m1 v w → K0 v h1 → Q' w H1) : tE M W (fun X => evE M.G (callS M.G k) X e) σ H Q' :=
  ⟨m, l, h, rh, rl, evE_mono (csle M k) hX e l h _ _ (fun v h1 q1 m1 H1 w e1 k1 rh1 rv1 => c m1 H1 v w h1 e1 k1 rh1 (rl.mono k1 e1) rv1 q1) q⟩
theorem tA_in {e : Es} {X0 : KX} {K0 : List PV → PH → Prop} {Q' : List V → Hp → Prop} (rh : RH M H m h) (rl : RL M.K H m l σ) (hX : ∀ x h, X0 x h → LX M W σ m H x h) (q : evEs M.G (callS M.G k) X0 e l h K0)
    (c : ∀ (m1 : List Addr) (H1 : Hp) (v : List PV) (w : List V) (h1 : PH), Ex m m1 → Kp M.K H H1 → RH M H1 m1 h1 → RL M.K H1 m1 l σ → RVs M.K H1 m1 v w → K0 v h1 → Q' w H1) : tA M W (fun X => evEs M.G (callS M.G k) X e) σ H Q' :=
  ⟨m, l, h, rh, rl, evEs_mono (csle M k) hX e l h _ _ (fun v h1 q1 m1 H1 w e1 k1 rh1 rv1 => c m1 H1 v w h1 e1 k1 rh1 (rl.mono k1 e1) rv1 q1) q⟩
theorem tT_in {e : C} {X0 : KX} {K0 : Bool → PH → Prop} {Q' : Bool → Hp → Prop} (rh : RH M H m h) (rl : RL M.K H m l σ) (hX : ∀ x h, X0 x h → LX M W σ m H x h) (q : evT M.G (callS M.G k) X0 e l h K0)
    (c : ∀ (m1 : List Addr) (H1 : Hp) (b : Bool) (h1 : PH), Ex m m1 → Kp M.K H H1 → RH M H1 m1 h1 → RL M.K H1 m1 l σ → K0 b h1 → Q' b H1) : tT M W (fun X => evT M.G (callS M.G k) X e) σ H Q' :=
  ⟨m, l, h, rh, rl, evT_mono (csle M k) hX e l h _ _ (fun v h1 q1 m1 H1 e1 k1 rh1 => c m1 H1 v h1 e1 k1 rh1 (rl.mono k1 e1) q1) q⟩
theorem tO_in {e : OE} {X0 : KX} {K0 : Option Int → PH → Prop} {Q' : Option Int → Hp → Prop} (rh : RH M H m h) (rl : RL M.K H m l σ) (hX : ∀ x h, X0 x h → LX M W σ m H x h) (q : evO M.G (callS M.G k) X0 e l h K0)
    (c : ∀ (m1 : List Addr) (H1 : Hp) (b : Option Int) (h1 : PH), Ex m m1 → Kp M.K H H1 → RH M H1 m1 h1 → RL M.K H1 m1 l σ → K0 b h1 → Q' b H1) : tOp M W (fun X => evO M.G (callS M.G k) X e) σ H Q' :=
  ⟨m, l, h, rh, rl, evO_mono (csle M k) hX e l h _ _ (fun v h1 q1 m1 H1 e1 k1 rh1 => c m1 H1 v h1 e1 k1 rh1 (rl.mono k1 e1) q1) q⟩
end
/-- no star -/
theorem notStar {M : Mo} {N : List Str} {sc : Sco} : ∀ {e : E} {a : Expr} {p : Pos}, mE M.toMe N sc e (.Starred a p) = true → False
  | .lke e, a, p, h => notStar (e := e) h
  | .co e, a, p, h => notStar (e := e) h
  | .var _, _, _, h => absurd h Bool.false_ne_true
  | .int _, _, _, h => absurd h Bool.false_ne_true
  | .str _, _, _, h => absurd h Bool.false_ne_true
  | .bl _, _, _, h => absurd h Bool.false_ne_true
  | .non, _, _, h => absurd h Bool.false_ne_true
  | .glob _, _, _, h => absurd h Bool.false_ne_true
  | .bin _ _ _, _, _, h => absurd h Bool.false_ne_true
  | .neg _, _, _, h => absurd h Bool.false_ne_true
  | .nt _, _, _, h => absurd h Bool.false_ne_true
  | .and _ _, _, _, h => absurd h Bool.false_ne_true
  | .or _ _, _, _, h => absurd h Bool.false_ne_true
  | .cmp _ _ _, _, _, h => absurd h Bool.false_ne_true
  | .chain _ _ _ _ _, _, _, h => absurd h Bool.false_ne_true
  | .ite _ _ _, _, _, h => absurd h Bool.false_ne_true
  | .tup _, _, _, h => absurd h Bool.false_ne_true
  | .lst _, _, _, h => absurd h Bool.false_ne_true
  | .dic0, _, _, h => absurd h Bool.false_ne_true
  | .idx _ _, _, _, h => absurd h Bool.false_ne_true
  | .slc _ _ _, _, _, h => absurd h Bool.false_ne_true
  | .attr _ _, _, _, h => absurd h Bool.false_ne_true
  | .call _ _, _, _, h => absurd h Bool.false_ne_true
  | .mk _ _, _, _, h => absurd h Bool.false_ne_true
  | .mkK _ _ _, _, _, h => absurd h Bool.false_ne_true
  | .slr _, _, _, h => absurd h Bool.false_ne_true
  | .dicl _ _, _, _, h => absurd h Bool.false_ne_true
  | .meth _ _ _, _, _, h => absurd h Bool.false_ne_true
  | .ini _ _, _, _, h => absurd h Bool.false_ne_true
  | .mk0 _, _, _, h => absurd h Bool.false_ne_true
  | .lrg1 _, _, _, h => absurd h Bool.false_ne_true
  | .lzip _ _, _, _, h => absurd h Bool.false_ne_true
  | .dzip _ _, _, _, h => absurd h Bool.false_ne_true
  | .isi _ _, _, _, h => absurd h Bool.false_ne_true
  | .bf _ .nil, _, _, h => absurd h Bool.false_ne_true
  | .bf _ (.cons _ _), _, _, h => absurd h Bool.false_ne_true
  | .bm _ _ _, _, _, h => absurd h Bool.false_ne_true
  | .lc _ _ _ _, _, _, h => absurd h Bool.false_ne_true
  | .dget _ _ _, _, _, h => absurd h Bool.false_ne_true
  | .dg1 _ _, _, _, h => absurd h Bool.false_ne_true
  | .dxi _ _, _, _, h => absurd h Bool.false_ne_true
  | .dup _ _, _, _, h => absurd h Bool.false_ne_true
theorem notSlice {M : Mo} {N : List Str} {sc : Sco} : ∀ {e : E} {a b c : Option Expr} {p : Pos}, mE M.toMe N sc e (.Slice a b c p) = true → False
  | .lke e, a, c, p, _, h => notSlice (e := e) h
  | .co e, a, c, p, _, h => notSlice (e := e) h
  | .var _, _, _, _, _, h => absurd h Bool.false_ne_true
  | .int _, _, _, _, _, h => absurd h Bool.false_ne_true
  | .str _, _, _, _, _, h => absurd h Bool.false_ne_true
  | .bl _, _, _, _, _, h => absurd h Bool.false_ne_true
  | .non, _, _, _, _, h => absurd h Bool.false_ne_true
  | .glob _, _, _, _, _, h => absurd h Bool.false_ne_true
  | .bin _ _ _, _, _, _, _, h => absurd h Bool.false_ne_true
  | .neg _, _, _, _, _, h => absurd h Bool.false_ne_true
  | .nt _, _, _, _, _, h => absurd h Bool.false_ne_true
  | .and _ _, _, _, _, _, h => absurd h Bool.false_ne_true
  | .or _ _, _, _, _, _, h => absurd h Bool.false_ne_true
  | .cmp _ _ _, _, _, _, _, h => absurd h Bool.false_ne_true
  | .chain _ _ _ _ _, _, _, _, _, h => absurd h Bool.false_ne_true
  | .ite _ _ _, _, _, _, _, h => absurd h Bool.false_ne_true
  | .tup _, _, _, _, _, h => absurd h Bool.false_ne_true
  | .lst _, _, _, _, _, h => absurd h Bool.false_ne_true
  | .dic0, _, _, _, _, h => absurd h Bool.false_ne_true
  | .idx _ _, _, _, _, _, h => absurd h Bool.false_ne_true
  | .slc _ _ _, _, _, _, _, h => absurd h Bool.false_ne_true
  | .attr _ _, _, _, _, _, h => absurd h Bool.false_ne_true
  | .call _ _, _, _, _, _, h => absurd h Bool.false_ne_true
  | .mk _ _, _, _, _, _, h => absurd h Bool.false_ne_true
  | .mkK _ _ _, _, _, _, _, h => absurd h Bool.false_ne_true
  | .slr _, _, _, _, _, h => absurd h Bool.false_ne_true
  | .dicl _ _, _, _, _, _, h => absurd h Bool.false_ne_true
  | .meth _ _ _, _, _, _, _, h => absurd h Bool.false_ne_true
  | .ini _ _, _, _, _, _, h => absurd h Bool.false_ne_true
  | .mk0 _, _, _, _, _, h => absurd h Bool.false_ne_true
  | .lrg1 _, _, _, _, _, h => absurd h Bool.false_ne_true
  | .lzip _ _, _, _, _, _, h => absurd h Bool.false_ne_true
  | .dzip _ _, _, _, _, _, h => absurd h Bool.false_ne_true
  | .isi _ _, _, _, _, _, h => absurd h Bool.false_ne_true
  | .bf _ .nil, _, _, _, _, h => absurd h Bool.false_ne_true
  | .bf _ (.cons _ _), _, _, _, _, h => absurd h Bool.false_ne_true
  | .bm _ _ _, _, _, _, _, h => absurd h Bool.false_ne_true
  | .lc _ _ _ _, _, _, _, _, h => absurd h Bool.false_ne_true
  | .dget _ _ _, _, _, _, _, h => absurd h Bool.false_ne_true
  | .dg1 _ _, _, _, _, _, h => absurd h Bool.false_ne_true
  | .dxi _ _, _, _, _, _, h => absurd h Bool.false_ne_true
  | .dup _ _, _, _, _, _, h => absurd h Bool.false_ne_true
theorem star_of {M : Mo} {N : List Str} {sc : Sco} {e : E} {x : Expr} (h : mE M.toMe N sc e x = true) (env : Env) (r : List Expr) : starEach (x :: r) env = (false, eval x env) :: starEach r env := by
  cases x <;> first | rfl | exact (notStar h).elim
theorem plainIx_of {M : Mo} {N : List Str} {sc : Sco} {e : E} {x : Expr} (h : mE M.toMe N sc e x = true) : PlainIx x := by
  cases x <;> first | (intro o i; rfl) | exact (notSlice h).elim
theorem star_plain {M : Mo} {N : List Str} {sc : Sco} (env : Env) (pos : Pos) : ∀ {es : Es} {xs : List Expr}, mEs M.toMe N sc es xs = true → (backTo pos (starEach xs env)).any (·.1) = false
  | .nil, [], _ => rfl
  | .nil, _ :: _, h => absurd h Bool.false_ne_true
  | .cons _ _, [], h => absurd h Bool.false_ne_true
  | .cons e es, x :: xs, h => by
    obtain ⟨h1, h2⟩ := Bool.and_eq_true_iff.mp (show (mE M.toMe N sc e x && mEs M.toMe N sc es xs) = true from h)
    rw [star_of h1]
    show (false || (backTo pos (starEach xs env)).any (·.1)) = false
    rw [Bool.false_or]
    exact star_plain env pos h2

theorem star_plain2 {M : Mo} {N : List Str} {sc : Sco} (env : Env) (pos : Pos) {es : Es} {x : Expr} {xs : List Expr} (h : mEs M.toMe N sc es (x :: xs) = true) : starEach (x :: xs) env = (false, eval x env) :: starEach xs env ∧ (backTo pos (starEach xs env)).any (·.1) = false := by
  cases es with
  | nil => exact absurd h Bool.false_ne_true
  | cons e es =>
    obtain ⟨h1, h2⟩ := Bool.and_eq_true_iff.mp (show (mE M.toMe N sc e x && mEs M.toMe N sc es xs) = true from h)
    exact ⟨star_of h1 env xs, star_plain env pos h2⟩
/-- f(..) with what lacks -/
theorem pe_callG {M : Mo} {X : Cx} {N : List Str} {sc : Sco} {W : WX} {k f : Nat} {d : FD} {x : Str} {p pos : Pos} {es : Es} {xs : List Expr} {t : TA} (g : Good M X N sc W k) (hf : M.G.fn f = some d) (hx : x = M.nm f) (hgf : M.gf f = true) (hg : Gl X x) (hdb : (x == ("__debug__" : Str)) = false)
    (hm : mEs M.toMe N sc es xs = true) (ha : PA X xs t) (h0 : xs = [] → ∀ σ H Q, t σ H Q → Q [] H) :
    PE X (.Call (.Name x p) xs [] pos) (fun σ H Q => t σ H fun vs H1 => vs.length ≤ d.np ∧ (fill d.dfl (List.replicate vs.length PV.non) d.np).length = d.np ∧
      ∀ dvs, (∀ H m, RVs M.K H m (d.dfl.drop (d.dfl.length - (d.np - vs.length))) dvs) → spF M k f d.np (vs ++ dvs) H1 Q (WE W σ)) := by
  obtain ⟨fd, ps, F, kp, D⟩ := (g.fns k (Nat.le_refl k) f d hf).ex
  have hmg : X.mg x = some (.ref (M.fa f)) := by rw [hx]; exact g.fng f hgf
  have F' : FnG X.prog X.w X.K X.mg X.base (L2.CX X.prog X.w) k (M.fa f) fd ps (spF M k f d.np) := by rw [g.hK]; exact F
  have kp' : PySem.W.keepIn X.K (.ref (M.fa f)) = true := by rw [g.hK]; exact kp.1
  refine ⟨fun pins s σ H Q I h => ?_⟩
  refine wpAny_Call_Name_kw (ld_glob I hg hmg ?_ hdb)
  cases xs with
  | nil =>
    have fin : ∀ (vs : List V) (us : List Value) (H1 : Hp) (s1 : Shared), L2.Inv X pins σ H1 s1 → Vals vs us → (vs.length ≤ d.np ∧ (fill d.dfl (List.replicate vs.length PV.non) d.np).length = d.np ∧
      ∀ dvs, (∀ H m, RVs M.K H m (d.dfl.drop (d.dfl.length - (d.np - vs.length))) dvs) → spF M k f d.np (vs ++ dvs) H1 Q (WE W σ)) → wpAny (model X.prog X.w) X.A (call (.ref (M.fa f)) us) (EP X pins σ Q) X.xe s1 := by
      intro vs us H1 s1 I1 r ⟨q1, q2, q⟩
      obtain ⟨dvs, ds, hd, hb, hr⟩ := D vs.length q1 q2
      exact run_fnG F' g.gd g.room (by rw [g.hK]; exact hb) hd (passAt g.tk σ) I1 r (q dvs hr)
    exact PySem.W.callWith_K0 I.kIn kp' (fin [] [] H s I .nil (h0 rfl _ _ _ h))
  | cons y ys =>
    obtain ⟨h1, h2⟩ := star_plain2 X.env pos hm
    refine PySem.W.callWith_K (h₀ := X.base) I.ok.mod.kin kp' (thn (ha.run pos pins s σ H _ I h) fun us s1 ⟨vs, H1, I1, r, q⟩ => ⟨I1.kIn, ?_⟩) h1 h2
    obtain ⟨q1, q2, q⟩ := q
    obtain ⟨dvs, ds, hd, hb, hr⟩ := D vs.length q1 q2
    exact run_fnG F' g.gd g.room (by rw [g.hK]; exact hb) hd (passAt g.tk σ) I1 r (q dvs hr)

theorem gl_of {M : Mo} {X : Cx} {N : List Str} {sc : Sco} {W : WX} {k : Nat} (g : Good M X N sc W k) {x : Str} (h : glB sc x = true) : Gl X x ∧ (x == ("__debug__" : Str)) = false := by
  obtain ⟨h1, h2⟩ := Bool.and_eq_true_iff.mp h
  refine ⟨?_, by simpa using h2⟩
  show X.env.scope.names.lookup x = some .globalImplicit
  rw [g.sc]
  split at h1
  · assumption
  · cases h1
theorem vis_of {M : Mo} {X : Cx} {N : List Str} {sc : Sco} {W : WX} {k : Nat} (g : Good M X N sc W k) {x : Str} (h : visB sc x = true) : Vis X.env.scope x := by
  unfold visB at h
  unfold Vis
  rw [g.sc]
  split at h
  · rename_i e; exact .inl e
  · rename_i e; exact .inr (.inl e)
  · rename_i e; exact .inr (.inr e)
  · cases h
theorem isTrue_of {M : Mo} {N : List Str} {sc : Sco} {e : E} {x : Expr} {env : Env} (h : mC M.toMe N sc (.v e) x = true) : ∀ whole, isTrue x env whole = (do let v ← whole; standAt x.pos; holding [v] (truthy v)) := by
  obtain ⟨h1, h2⟩ := Bool.and_eq_true_iff.mp (show (mE M.toMe N sc e x && plainT x) = true from h)
  cases x with
  | UnaryOp op a p => cases op <;> first | (intro _; rfl) | exact absurd h2 Bool.false_ne_true
  | _ => first | (intro _; rfl) | exact absurd h2 Bool.false_ne_true
theorem nb {a : Bool} (h : (!a) = true) : a = false := by simpa using h
section
variable {M : Mo}
theorem truV_of {H : Hp} {m : List Addr} {h : PH} {v : PV} {w : V} {b : Bool} (r : RH M H m h) (rv : RV M.K H m v w) (e : truV h v = some b) : TruV M.K w H b := by
  cases v with
  | non => cases (show w = .non from rv); cases e; rfl
  | bl c => cases (show w = .bl c from rv); cases e; rfl
  | int i => cases (show w = .int i from rv); cases e; rfl
  | str s =>
    cases (show w = .str s from rv)
    unfold truV at e
    dsimp only at e
    split at e
    · rename_i hl; cases e; exact ⟨hl, rfl⟩
    · cases e
  | tup xs =>
    obtain ⟨p, vs, rfl, e1, e2⟩ := rv
    cases e
    refine .inr (.inl ⟨vs, e1, ?_⟩)
    have := e2.len
    cases xs <;> cases vs <;> simp_all
  | ref a =>
    obtain ⟨p, e1, rfl⟩ := rv
    unfold truV at e
    dsimp only at e
    have emp : ∀ {xs : List PV} {vs : List V}, RVs M.K H m xs vs → (!xs.isEmpty) = !vs.isEmpty := fun {xs vs} z => by
      have := z.len
      cases xs <;> cases vs <;> simp_all
    split at e
    · rename_i xs e2
      cases e
      obtain ⟨vs, e3, e4⟩ := r.obj _ _ _ e2 e1
      exact .inl ⟨vs, .inl (.inl e3), emp e4⟩
    · rename_i xs e2
      cases e
      obtain ⟨vs, e3, e4⟩ := r.obj _ _ _ e2 e1
      refine .inl ⟨vs, ?_, emp e4⟩
      rcases e3 with ⟨o, e3⟩ | e3
      · exact .inl (.inr ⟨o, e3⟩)
      · exact .inr e3
    · rename_i xs e2
      cases e
      obtain ⟨vs, e3, e4⟩ := r.obj _ _ _ e2 e1
      refine .inr (.inr ⟨vs, e3, ?_⟩)
      cases xs with
      | nil => cases (show vs = [] from e4); rfl
      | cons z zs => obtain ⟨x, y⟩ := z; obtain ⟨a, b, c, rfl, _⟩ := e4; rfl
    · cases e
end

section
variable {M : Mo} {k : Nat}
theorem bf_in (f : BF) (n : isTyB f = false) : bfNm f ∈ bltNames := by cases f <;> first | (unfold bltNames bfNm; simp; done) | (exact absurd n (by decide))
/-- the built-in function by its name -/
theorem sBf {X : Cx} {N : List Str} {sc : Sco} {W : WX} (g : Good M X N sc W k) (f : BF) (n : isTyB f = false) {x : Str} (hx : bfNm f = x) (hg : glB sc x = true) {e : E} {es : Es} {y : Expr} {ys : List Expr} {p pos : Pos} {t : TA}
    (hm : mEs M.toMe N sc (.cons e es) (y :: ys) = true) (ha : PA X (y :: ys) t) : PE X (.Call (.Name x p) (y :: ys) [] pos) (tCB (rF M f) t) := by
  obtain ⟨h1, h2⟩ := star_plain2 X.env pos hm
  obtain ⟨g1, g2⟩ := gl_of g hg
  have fr : X.mg x = none := by rw [← hx]; exact g.glo.free _ (bf_in f n)
  have hnn : x ≠ "__name__" := by rw [← hx]; cases f <;> decide +kernel
  have never : ∀ (v : Value), (∀ ws H Q, ¬ rF M f ws H Q) → CallR X v (rF M f) := fun v hn pins s σ H xs us Q I r q => (hn _ _ _ q).elim
  have no : (∀ vs h Q, ¬ bfV f vs h Q) → ∀ ws H Q, ¬ rF M f ws H Q := fun hn ws H Q ⟨m, h, vs, _, _, q⟩ => hn _ _ _ q
  subst hx
  cases f with
  | len => exact pe_callB (sLen g.hK) g1 fr PySem.boot_len ha hnn g2 h1 h2
  | list1 => exact pe_callTy (sList1 g.hK) g1 fr (by decide +kernel) ha hnn g2 h1 h2
  | tuple1 => exact pe_callTy (sTuple1 g.hK) g1 fr (by decide +kernel) ha hnn g2 h1 h2
  | min2 => exact pe_callB (sMin2 g.calm) g1 fr (by decide +kernel) ha hnn g2 h1 h2
  | max2 => exact pe_callB (sMax2 g.calm) g1 fr (by decide +kernel) ha hnn g2 h1 h2
  | abs => exact pe_callB sAbs g1 fr (by decide +kernel) ha hnn g2 h1 h2
  | isInt => exact absurd n (by decide)
  | isBool => exact absurd n (by decide)
  | isStr => exact absurd n (by decide)
  | isList => exact absurd n (by decide)
  | isTuple => exact absurd n (by decide)
  | tuple0 => exact pe_callTy (T := "tuple") (never _ (no fun vs h Q q => by cases q)) g1 fr (by decide +kernel) ha hnn g2 h1 h2
  | int1 => exact pe_callTy (T := "int") sInt1 g1 fr (by decide +kernel) ha hnn g2 h1 h2
  | str1 => exact pe_callTy (T := "str") sStr1 g1 fr (by decide +kernel) ha hnn g2 h1 h2
  | listD => exact pe_callTy (T := "list") (sListD g.hK g.calm) g1 fr (by decide +kernel) ha hnn g2 h1 h2
  | sortD => exact pe_callB (id := "sorted") (sSortD g.hK g.calm) g1 fr (by decide +kernel) ha hnn g2 h1 h2
  | dictD => exact pe_callTy (T := "dict") (sDictD g.hK) g1 fr (by decide +kernel) ha hnn g2 h1 h2
  | dictT => exact pe_callTy (T := "dict") (sDictT g.hK g.calm) g1 fr (by decide +kernel) ha hnn g2 h1 h2
  | tupleP => exact pe_callTy (T := "tuple") (sTupleP g.hK) g1 fr (by decide +kernel) ha hnn g2 h1 h2
  | dict1 => exact pe_callTy (T := "dict") (sDict1 g.hK g.calm) g1 fr (by decide +kernel) ha hnn g2 h1 h2
  | dict0 => exact pe_callTy (T := "dict") (never _ (no fun vs h Q q => by cases q)) g1 fr (by decide +kernel) ha hnn g2 h1 h2
  | minL => exact pe_callB (id := "min") (sMinL g.hK g.calm) g1 fr (by decide +kernel) ha hnn g2 h1 h2
  | maxL => exact pe_callB (id := "max") (sMaxL g.hK g.calm) g1 fr (by decide +kernel) ha hnn g2 h1 h2
  | sumL => exact pe_callB (id := "sum") (sSumL g.hK g.calm) g1 fr (by decide +kernel) ha hnn g2 h1 h2
  | repr1 => exact pe_callB (id := "repr") (sRepr1 g.hK g.gd (by have := g.room.un; omega)) g1 fr (by decide +kernel) ha hnn g2 h1 h2
  | sorted1 => exact pe_callB (id := "sorted") (never _ (no fun vs h Q q => by cases q)) g1 fr (by decide +kernel) ha hnn g2 h1 h2
  | all1 => exact pe_callB (id := "all") (sAll1 g.hK g.calm) g1 fr (by decide +kernel) ha hnn g2 h1 h2
theorem call_sp {f : Nat} {d : FD} {m : List Addr} {H : Hp} {h : PH} {args : List PV} {vs : List V} {Q : VK} {E : XK} (hf : M.G.fn f = some d) (rh : RH M H m h) (rv : RVs M.K H m args vs) (q : callS M.G k (.fn f) args h (LQ M m H Q) (LE M E m H)) :
    vs.length ≤ d.np ∧ (fill d.dfl (List.replicate vs.length PV.non) d.np).length = d.np ∧ ∀ dvs, (∀ H m, RVs M.K H m (d.dfl.drop (d.dfl.length - (d.np - vs.length))) dvs) → spF M k f d.np (vs ++ dvs) H Q E := by
  cases k with
  | zero => exact (show False from q).elim
  | succ k =>
    obtain ⟨d', hf', l1, l2, q⟩ := q
    rw [hf] at hf'; cases hf'
    have el := rv.len
    refine ⟨by rw [← el]; exact l2, by rw [← el]; unfold fill at l1 ⊢; simpa using l1, fun dvs hd => ⟨m, h, fill d.dfl args d.np, rh, ?_, l1, ?_⟩⟩
    · unfold fill
      refine rv.app ?_
      rw [el]
      exact hd H m
    · have e0 : fill d.dfl (fill d.dfl args d.np) d.np = fill d.dfl args d.np := by
        have z : d.np - (fill d.dfl args d.np).length = 0 := by omega
        show fill d.dfl args d.np ++ d.dfl.drop (d.dfl.length - (d.np - (fill d.dfl args d.np).length)) = _
        rw [z]; simp
      exact ⟨d, hf, by rw [e0]; exact l1, Nat.le_of_eq l1, by rw [e0]; exact q⟩
/-- isinstance(x, T) -/
theorem sIsT {X : Cx} {N : List Str} {sc : Sco} {W : WX} (g : Good M X N sc W k) {f : BF} (n : isTyB f = true) {x t : Str} (hx : bfNm f = x) (ht : t = Str.ofString (tyOf f)) (hg : glB sc x = true) (hgt : glB sc t = true) {a : E} {y : Expr} {p pos tp : Pos} (hm : mE M.toMe N sc a y = true)
    (ha : PE X y (tE M W fun Y => evE M.G (callS M.G k) Y a)) : PE X (.Call (.Name x p) [y, .Name t tp] [] pos) (tE M W fun Y => evE M.G (callS M.G k) Y (.isi f a)) := by
  obtain ⟨g1, g2⟩ := gl_of g hg
  obtain ⟨t1, t2⟩ := gl_of g hgt
  have hT : tyOf f = "int" ∨ tyOf f = "bool" ∨ tyOf f = "str" ∨ tyOf f = "list" ∨ tyOf f = "tuple" := by cases f <;> first | exact absurd n (by decide) | (unfold tyOf; simp)
  have fx : x = "isinstance" := by rw [← hx]; cases f <;> first | exact absurd n (by decide) | rfl
  have ft : bootBuiltins t = some (.type (tyOf f)) := by rw [ht]; cases f <;> first | exact absurd n (by decide) | (unfold tyOf; decide +kernel)
  have fm : X.mg t = none := g.glo.free t (by rw [ht]; cases f <;> first | exact absurd n (by decide) | (unfold tyOf bltNames; simp))
  have htn : t ≠ "__name__" := by rw [ht]; cases f <;> first | exact absurd n (by decide) | (unfold tyOf; decide +kernel)
  subst fx
  have pt : PE X (.Name t tp) (tC (.ty (tyOf f))) := pe_bltn t1 fm ft rfl htn t2
  have fi : X.mg "isinstance" = none := g.glo.free _ (by unfold bltNames; simp)
  refine (pe_callB (sIsi (M := M) g.hK hT) g1 fi (by decide +kernel) (pa_cons ha (pa_cons pt pa_nil rfl) (star_of hm X.env _)) (by decide +kernel) g2 (star_of hm X.env _) rfl).wk fun σ H Q q => ?_
  obtain ⟨m, l, h, rh, rl, q⟩ := q
  refine tE_in rh rl (fun _ _ z => z) q fun m1 H1 v w h1 e1 k1 rh1 rl1 rv1 q1 => ?_
  obtain ⟨ty, e, q2⟩ := q1
  exact ⟨m1, h1, v, w, ty, rh1, rfl, rv1, e, (LQ.mono e1 k1 _ _ q2).at rh1 rfl⟩
theorem fill_len {dfl : List PV} {vs : List PV} {n : Nat} : (fill dfl vs n).length = (fill dfl (List.replicate vs.length PV.non) n).length := by
  unfold fill; simp
end
end Py

set_option Elab.async false
set_option linter.all false
set_option maxRecDepth 100000
set_option maxHeartbeats 4000000
/-! PyZip: zip of a tuple and a list, by the two iterators' own words. -/
namespace Py
open PySem PySem.Spec PyProof.Rows L2 RZ
section
variable {prog : Program} {w : World} {A : Around} {E : Value → Shared → Prop} {s : Shared} {zz T1 T2 j1 j2 u1 u2 : Addr} {n1 n2 : Nat} {xs ys : Array Value} {x y a b : Value}
/-- what zip holds ahead of a turn: a tuple's iterator, a list's -/
structure ZmAt (h : Heap) (zz T1 T2 j1 j2 u1 u2 : Addr) (n1 n2 : Nat) (f : Value) (a b : Value) : Prop where
  zp : IsZip h zz T1 T2 f
  p1 : IsPair h T1 (.ref j1) (.ref j2)
  p2 : IsPair h T2 a b
  t1 : h.IsTupleIter j1 u1 n1
  t2 : h.IsListIter j2 u2 n2
abbrev ZmKeep (h h' : Heap) (zz T2 j1 j2 : Addr) : Prop := ∀ c o, c ≠ zz → c ≠ T2 → c ≠ j1 → c ≠ j2 → h.get? c = some o → h'.get? c = some o
theorem zm_item {Q : Value → Shared → Prop} (D : ZipApart zz T1 T2 j1 j2 u1 u2) (Z : ZmAt s.heap zz T1 T2 j1 j2 u1 u2 n1 n2 .none a b) (hu : s.heap.IsTuple u1 xs) (hv : s.heap.IsList u2 ys) (ex : xs[n1]? = some x) (ey : ys[n2]? = some y)
    (hQ : ∀ h', ZmAt h' zz T1 T2 j1 j2 u1 u2 (n1 + 1) (n2 + 1) (rawInt s.heap.objs.size) x y → IsPair h' s.heap.objs.size x y → h'.objs.size = s.heap.objs.size + 1 → ZmKeep s.heap h' zz T2 j1 j2 → Q (.ref s.heap.objs.size) { s with heap := h' }) :
    wpAny (model prog w) A (Builtin.«zip.__next__» ⟨[.ref zz], []⟩) (fun fin s' => ∃ v, fin = .done (.ret v) ∧ Q v s') E s := by
  obtain ⟨zp, p1, p2, t1, t2⟩ := Z
  show wpAny _ _ (field (.ref zz) 2 >>= _) _ _ _; refine wpAny_bind (wpAny_field zp rfl (x := .bool false) rfl ?_)
  show wpAny _ _ (field (.ref zz) 3 >>= _) _ _ _; refine wpAny_bind (wpAny_field zp rfl (x := .ref T1) rfl (wpAny_bind (wpAny_seqItems p1 rfl ?_)))
  show wpAny _ _ (Builtin.SmallTypes.ownedTupleIsFree (.ref zz) >>= _) _ _ _; refine wpAny_bind ?_
  unfold Builtin.SmallTypes.ownedTupleIsFree; refine wpAny_bind (wpAny_field zp rfl (x := .none) rfl (wpAny_pure ?_)); simp only [if_true]
  refine wpAny_bind (wpAny_rule (wpAny_bind (wpAny_field zp rfl (x := .ref T2) rfl (wpAny_bind (wpAny_setField_rec zp (by simp) fun ha za sa => ?_)))))
  replace za : IsZip ha zz T1 T2 .ellipsis := za
  refine wpAny_bind ?_; simp only [List.zipIdx_cons, List.zipIdx_nil, List.forIn_cons, List.forIn_nil]
  refine wpAny_bind (wpAny_bind (wpAny_onRaise ?_)); show wpAny _ _ (Builtin.SmallTypes.nextOf (.ref j1) >>= _) _ _ _
  refine wpAny_bind (nextOf_tuple_item (t1.extBut sa.extBut D.i1z) (hu.extBut sa.extBut D.l1z) ex fun hb tb sb => wpAny_pure ?_)
  have pb : IsPair hb T2 a b := sb.extBut _ _ D.TOi1 (sa.extBut _ _ D.TOz p2)
  refine wpAny_bind (wpAny_seqItems pb rfl (wpAny_bind (wpAny_updateSeq_pair pb fun hc pc sc => ?_)))
  replace pc : IsPair hc T2 x b := pc
  refine wpAny_bind (wpAny_letGo (wpAny_pure (wpAny_bind (wpAny_bind (wpAny_onRaise ?_))))); show wpAny _ _ (Builtin.SmallTypes.nextOf (.ref j2) >>= _) _ _ _
  have t2c := ((t2.extBut sa.extBut D.i2z).extBut sb.extBut D.i12.symm).extBut sc.extBut D.TOi2.symm
  have hvc := ((hv.extBut sa.extBut D.l2z).extBut sb.extBut D.l2i1).extBut sc.extBut D.l2TO
  refine wpAny_bind (wpAny_nextOf_list_item t2c hvc ey fun hd td sd => wpAny_pure ?_)
  have pd : IsPair hd T2 x b := sd.extBut _ _ D.TOi2 pc
  refine wpAny_bind (wpAny_seqItems pd rfl (wpAny_bind (wpAny_updateSeq_pair pd fun he pe se => ?_)))
  replace pe : IsPair he T2 x y := pe
  refine wpAny_bind (wpAny_letGo (wpAny_pure (wpAny_pure (wpAny_bind (wpAny_seqItems pe rfl (wpAny_bind (wpAny_newTuple ?_)))))))
  have hn : he.objs.size = s.heap.objs.size := by rw [se.1, sd.1, sc.1, sb.1, sa.1]
  have ze : IsZip he zz T1 T2 .ellipsis := se.extBut _ _ D.TOz.symm (sd.extBut _ _ D.i2z.symm (sc.extBut _ _ D.TOz.symm (sb.extBut _ _ D.i1z.symm za)))
  have ke : ZmKeep s.heap he zz T2 j1 j2 := fun c o c1 c2 c3 c4 e => se.extBut _ _ c2 (sd.extBut _ _ c4 (sc.extBut _ _ c2 (sb.extBut _ _ c3 (sa.extBut _ _ c1 e))))
  have t1e : he.IsTupleIter j1 u1 (n1 + 1) := ((tb.extBut sc.extBut D.TOi1.symm).extBut sd.extBut D.i12).extBut se.extBut D.TOi1.symm
  have t2e : he.IsListIter j2 u2 (n2 + 1) := td.extBut se.extBut D.TOi2.symm
  have zl : zz < he.objs.size := Heap.lt_size ze
  show wpAny _ _ (Builtin.SmallTypes.ownedTupleHandOut (.ref zz) (.ref he.objs.size) >>= _) _ _ _; refine wpAny_bind ?_
  unfold Builtin.SmallTypes.ownedTupleHandOut
  have zf : IsZip (he.push { cls := .type "tuple", data := .seq #[x, y] }) zz T1 T2 .ellipsis := Heap.get?_push_of_some _ ze
  refine wpAny_bind (wpAny_setField_rec zf (by simp) fun hg zg sg => ?_)
  replace zg : IsZip hg zz T1 T2 (rawInt he.objs.size) := zg
  refine wpAny_setField_rec zg (by simp) fun hk zk sk => ?_
  replace zk : IsZip hk zz T1 T2 (rawInt he.objs.size) := zk
  have up : ∀ c o, c ≠ zz → he.get? c = some o → hk.get? c = some o := fun c o c1 e => sk.extBut _ _ c1 (sg.extBut _ _ c1 (Heap.get?_push_of_some _ e))
  have pk : IsPair hk he.objs.size x y := sk.extBut _ _ (Nat.ne_of_gt zl) (sg.extBut _ _ (Nat.ne_of_gt zl) (Heap.get?_push_size _ rfl))
  have nk : hk.objs.size = he.objs.size + 1 := by rw [sk.1, sg.1, Heap.size_push]
  rw [hn] at zk pk nk
  refine wpAny_pure ⟨_, rfl, ?_⟩
  show Q (.ref he.objs.size) _; rw [hn]
  exact hQ hk ⟨zk, up _ _ D.TIz (ke _ _ D.TIz D.TITO D.TIi1 D.TIi2 p1), up _ _ D.TOz pe, t1e.at fun o e => up _ o D.i1z e, t2e.at fun o e => up _ o D.i2z e⟩ pk nk fun c o c1 c2 c3 c4 e => up c o c1 (ke c o c1 c2 c3 c4 e)
theorem zm_end {Q : Fin → Shared → Prop} (hh : A.handled = none) (D : ZipApart zz T1 T2 j1 j2 u1 u2) (Z : ZmAt s.heap zz T1 T2 j1 j2 u1 u2 n1 n2 .none a b) (hu : s.heap.IsTuple u1 xs) (hv : s.heap.IsList u2 ys) (ee : xs[n1]? = none ∨ ys[n2]? = none)
    (hE : ∀ h' e, ZmKeep s.heap h' zz T2 j1 j2 → (∃ o, h'.get? e = some o ∧ o.cls = .type "StopIteration") → E (.ref e) { s with heap := h' }) :
    wpAny (model prog w) A (Builtin.«zip.__next__» ⟨[.ref zz], []⟩) Q E s := by
  obtain ⟨zp, p1, p2, t1, t2⟩ := Z
  show wpAny _ _ (field (.ref zz) 2 >>= _) _ _ _; refine wpAny_bind (wpAny_field zp rfl (x := .bool false) rfl ?_)
  show wpAny _ _ (field (.ref zz) 3 >>= _) _ _ _; refine wpAny_bind (wpAny_field zp rfl (x := .ref T1) rfl (wpAny_bind (wpAny_seqItems p1 rfl ?_)))
  show wpAny _ _ (Builtin.SmallTypes.ownedTupleIsFree (.ref zz) >>= _) _ _ _; refine wpAny_bind ?_
  unfold Builtin.SmallTypes.ownedTupleIsFree; refine wpAny_bind (wpAny_field zp rfl (x := .none) rfl (wpAny_pure ?_)); simp only [if_true]
  refine wpAny_bind (wpAny_rule (wpAny_bind (wpAny_field zp rfl (x := .ref T2) rfl (wpAny_bind (wpAny_setField_rec zp (by simp) fun ha za sa => ?_)))))
  replace za : IsZip ha zz T1 T2 .ellipsis := za
  refine wpAny_bind ?_; simp only [List.zipIdx_cons, List.zipIdx_nil, List.forIn_cons, List.forIn_nil]
  refine wpAny_bind (wpAny_bind (wpAny_onRaise ?_)); show wpAny _ _ (Builtin.SmallTypes.nextOf (.ref j1) >>= _) _ _ _
  cases ex : xs[n1]? with
  | none =>
    refine wpAny_bind (nextOf_tuple_end hh (t1.extBut sa.extBut D.i1z) (hu.extBut sa.extBut D.l1z) ex fun hb e sb st => ?_)
    obtain ⟨oe, q1, q2⟩ := st
    have zb : IsZip hb zz T1 T2 .ellipsis := sb _ _ D.i1z.symm za
    have ne : e ≠ zz := fun q => by subst q; rw [zb] at q1; cases q1; simp at q2
    exact wpAny_setField_rec zb (by simp) fun hc _ sc => hE hc e (fun c o c1 _ c3 _ q => sc.extBut _ _ c1 (sb _ _ c3 (sa.extBut _ _ c1 q))) ⟨oe, sc.extBut _ _ ne q1, q2⟩
  | some x =>
    have ey : ys[n2]? = none := ee.resolve_left (by rw [ex]; nofun)
    refine wpAny_bind (nextOf_tuple_item (t1.extBut sa.extBut D.i1z) (hu.extBut sa.extBut D.l1z) ex fun hb tb sb => wpAny_pure ?_)
    have pb : IsPair hb T2 a b := sb.extBut _ _ D.TOi1 (sa.extBut _ _ D.TOz p2)
    refine wpAny_bind (wpAny_seqItems pb rfl (wpAny_bind (wpAny_updateSeq_pair pb fun hc pc sc => ?_)))
    refine wpAny_bind (wpAny_letGo (wpAny_pure (wpAny_bind (wpAny_bind (wpAny_onRaise ?_))))); show wpAny _ _ (Builtin.SmallTypes.nextOf (.ref j2) >>= _) _ _ _
    have t2c := ((t2.extBut sa.extBut D.i2z).extBut sb.extBut D.i12.symm).extBut sc.extBut D.TOi2.symm
    have hvc := ((hv.extBut sa.extBut D.l2z).extBut sb.extBut D.l2i1).extBut sc.extBut D.l2TO
    refine wpAny_bind (wpAny_nextOf_list_end hh t2c hvc ey fun hd e sd st => ?_)
    obtain ⟨oe, q1, q2⟩ := st
    have zd : IsZip hd zz T1 T2 .ellipsis := sd _ _ D.i2z.symm (sc.extBut _ _ D.TOz.symm (sb.extBut _ _ D.i1z.symm za))
    have ne : e ≠ zz := fun q => by subst q; rw [zd] at q1; cases q1; simp at q2
    exact wpAny_setField_rec zd (by simp) fun hf _ sf => hE hf e (fun c o c1 c2 c3 c4 q => sf.extBut _ _ c1 (sd _ _ c4 (sc.extBut _ _ c2 (sb.extBut _ _ c3 (sa.extBut _ _ c1 q))))) ⟨oe, sf.extBut _ _ ne q1, q2⟩
theorem zm_nextI {Q : Option Value → Shared → Prop} (D : ZipApart zz T1 T2 j1 j2 u1 u2) (Z : ZmAt s.heap zz T1 T2 j1 j2 u1 u2 n1 n2 .none a b) (hu : s.heap.IsTuple u1 xs) (hv : s.heap.IsList u2 ys) (ex : xs[n1]? = some x) (ey : ys[n2]? = some y)
    (hQ : ∀ h', ZmAt h' zz T1 T2 j1 j2 u1 u2 (n1 + 1) (n2 + 1) (rawInt s.heap.objs.size) x y → IsPair h' s.heap.objs.size x y → h'.objs.size = s.heap.objs.size + 1 → ZmKeep s.heap h' zz T2 j1 j2 → Q (some (.ref s.heap.objs.size)) { s with heap := h' }) :
    wpAny (model prog w) A (pyNext (.ref zz)) Q E s := by
  have ty : s.TypeIs (.ref zz) "zip" := ⟨_, Z.zp, rfl⟩
  unfold pyNext
  exact wpAny_bind (wpAny_attempt (wpAny_callSpecial?_slot (name := Str.ofString "__next__") ty F.slot_zip_next (wpAny_call_entry F.slot_zip_next ty F.entry_zip_next (zm_item D Z hu hv ex ey fun h' b1 b2 b3 b4 => wpAny_pure (hQ h' b1 b2 b3 b4)) (F.args_zip_next_1 _))))
theorem zm_nextE {Q : Option Value → Shared → Prop} (hh : A.handled = none) (D : ZipApart zz T1 T2 j1 j2 u1 u2) (Z : ZmAt s.heap zz T1 T2 j1 j2 u1 u2 n1 n2 .none a b) (hu : s.heap.IsTuple u1 xs) (hv : s.heap.IsList u2 ys) (ee : xs[n1]? = none ∨ ys[n2]? = none)
    (hQ : ∀ h', ZmKeep s.heap h' zz T2 j1 j2 → Q none { s with heap := h' }) : wpAny (model prog w) A (pyNext (.ref zz)) Q E s := by
  have ty : s.TypeIs (.ref zz) "zip" := ⟨_, Z.zp, rfl⟩
  unfold pyNext
  refine wpAny_bind (wpAny_attempt (wpAny_callSpecial?_slot (name := Str.ofString "__next__") ty F.slot_zip_next (wpAny_call_entry F.slot_zip_next ty F.entry_zip_next (zm_end hh D Z hu hv ee fun h' e hk st => ?_) (F.args_zip_next_1 _))))
  obtain ⟨o, q1, q2⟩ := st
  refine wpAny_bind (wpAny_isInstance (T := "StopIteration") (b := true) ⟨o, q1, q2⟩ isSubtype_stop (wpAny_pure (hQ _ hk)))
/-! ### zip(t, l) is made -/
abbrev zmA (h : Heap) (u1 : Addr) : Heap := h.push { cls := .type "tuple_iterator", data := .fields #[.ref u1, .int 0 0] }
abbrev zmB (h : Heap) (u1 u2 : Addr) : Heap := (zmA h u1).push { cls := .type "list_iterator", data := .fields #[.ref u2, .int 0 0] }
abbrev zmC (h : Heap) (u1 u2 : Addr) : Heap := (zmB h u1 u2).push { cls := .type "tuple", data := .seq #[.ref h.objs.size, .ref (zmA h u1).objs.size] }
abbrev zmD (h : Heap) (u1 u2 : Addr) : Heap := (zmC h u1 u2).push { cls := .type "tuple", data := .seq #[.none, .none] }
abbrev zmE (h : Heap) (u1 u2 : Addr) : Heap := (zmD h u1 u2).push { cls := .type "zip", data := .fields #[.none, .bool false, .bool false, .ref (zmB h u1 u2).objs.size, .ref (zmC h u1 u2).objs.size] }
theorem zm_meets (u1 u2 : Addr) (xs ys : Array Value) :
    Meets (Builtin.«zip.__new__» ⟨[.type "zip", .ref u1, .ref u2], []⟩) (fun _ R s => s.heap.IsTuple u1 xs ∧ s.heap.IsList u2 ys ∧ R (.ok (.ret (.ref (zmD s.heap u1 u2).objs.size))) { s with heap := zmE s.heap u1 u2 }) :=
  .of_wp fun prog w A R s q => by
    obtain ⟨hp, g, d, tk, os⟩ := s; obtain ⟨hu, hv, q⟩ := q
    have sb := sub_zip
    have hU : Heap.IsTuple (Shared.heap ⟨hp, g, d, tk, os⟩) u1 xs := hu
    have hV : Heap.IsList (Shared.heap ⟨hp.push { cls := .type "tuple_iterator", data := .fields #[.ref u1, .int 0 0] }, g, d, tk, os⟩) u2 ys := Heap.IsList.push hv _
    wp_walk using wpAny_pyIter_tuple hU, wpAny_pyIter_list hV
    exact ⟨_, rfl, q⟩
theorem zm_call {u1 u2 : Addr} {xs ys : Array Value} {Q : Value → Shared → Prop} (hu : s.heap.IsTuple u1 xs) (hv : s.heap.IsList u2 ys)
    (q : ∀ h', ZmAt h' (s.heap.objs.size + 4) (s.heap.objs.size + 2) (s.heap.objs.size + 3) s.heap.objs.size (s.heap.objs.size + 1) u1 u2 0 0 .none .none .none → (∀ c o, s.heap.get? c = some o → h'.get? c = some o) → Q (.ref (s.heap.objs.size + 4)) { s with heap := h' }) :
    wpAny (model prog w) A (call (.type "zip") [.ref u1, .ref u2]) Q E s := by
  refine callType_new F.called_zip (by decide) (F.typeCall_zip_2 _ _) (F.newCall_zip_2 _ _) (fun obj => F.args_object_init_3 obj _ _) F.entry_zip_new (zm_meets u1 u2 xs ys) ⟨hu, hv, ?_⟩
  have nA : (zmA s.heap u1).objs.size = s.heap.objs.size + 1 := Heap.size_push ..
  have nB : (zmB s.heap u1 u2).objs.size = s.heap.objs.size + 2 := by rw [Heap.size_push, nA]
  have nC : (zmC s.heap u1 u2).objs.size = s.heap.objs.size + 3 := by rw [Heap.size_push, nB]
  have nD : (zmD s.heap u1 u2).objs.size = s.heap.objs.size + 4 := by rw [Heap.size_push, nC]
  have pu : ∀ {h : Heap} {o o' : Obj} {c : Addr}, h.get? c = some o → (h.push o').get? c = some o := fun e => Heap.get?_push_of_some _ e
  have eE : (zmE s.heap u1 u2).get? (zmD s.heap u1 u2).objs.size = some _ := Heap.get?_push_size _ rfl
  have eD : (zmE s.heap u1 u2).get? (zmC s.heap u1 u2).objs.size = some _ := pu (Heap.get?_push_size _ rfl)
  have eC : (zmE s.heap u1 u2).get? (zmB s.heap u1 u2).objs.size = some _ := pu (pu (Heap.get?_push_size _ rfl))
  have eB : (zmE s.heap u1 u2).get? (zmA s.heap u1).objs.size = some _ := pu (pu (pu (Heap.get?_push_size _ rfl)))
  have eA : (zmE s.heap u1 u2).get? s.heap.objs.size = some _ := pu (pu (pu (pu (Heap.get?_push_size _ rfl))))
  show _ ∧ _
  rw [nB, nC, nD] at eE
  rw [nA, nB] at eC
  rw [nC] at eD
  rw [nA] at eB
  rw [nD]
  exact ⟨⟨_, eE, rfl⟩, q _ ⟨eE, eC, eD, ⟨_, eA, rfl, rfl⟩, ⟨_, eB, rfl, rfl⟩⟩ fun c o e => pu (pu (pu (pu (pu e))))⟩
end
/-- the tuple at a and the list at b as they stand at each turn, the items in new pairs -/
def ItzM (K : PySem.W.Frag) (a b : Addr) : It where
  go := fun i H => ∃ (xs ys : List V) (x y : V), SqT K H a xs ∧ (SqL K H b ys ∧ (xs[i]? = some x ∧ ys[i]? = some y))
  yld := fun i H v H' => ∃ T x y, (v = .ref T ∧ H T = none) ∧ (H' = upd H T (.tup [x, y]) ∧ ((∀ xs, SqT K H a xs → xs[i]? = some x) ∧ ∀ ys, SqL K H b ys → ys[i]? = some y))
  stop := fun i H => ∃ xs ys : List V, SqT K H a xs ∧ (SqL K H b ys ∧ (xs.length ≤ i ∨ ys.length ≤ i))
theorem turn_zm {P : Program} {w : World} {K : PySem.W.Frag} {elts : List Expr} {kk : Nat} {tpos : Pos} {a b zz T1 T2 j1 j2 : Addr} (D : ZipApart zz T1 T2 j1 j2 a b) :
    Turn P w K (.Tuple elts kk tpos) (ItzM K a b) [zz, T1, T2, j1, j2] zz (fun i h => ∃ x y, ZmAt h zz T1 T2 j1 j2 a b i i .none x y) where
  mem := by simp
  obj := fun i h st c hc => by
    obtain ⟨x, y, zp, p1, p2, ⟨o1, e1, _, d1⟩, ⟨o2, e2, _, d2⟩⟩ := st
    simp only [List.mem_cons, List.not_mem_nil, or_false] at hc
    rcases hc with rfl | rfl | rfl | rfl | rfl
    · exact ⟨_, zp, nofun⟩
    · exact ⟨_, p1, nofun⟩
    · exact ⟨_, p2, nofun⟩
    · exact ⟨o1, e1, fun v q => by rw [d1] at q; cases q⟩
    · exact ⟨o2, e2, fun v q => by rw [d2] at q; cases q⟩
  keep := fun i h h' st k => by
    obtain ⟨x, y, zp, p1, p2, t1, t2⟩ := st
    exact ⟨x, y, k zz (by simp) _ zp, k T1 (by simp) _ p1, k T2 (by simp) _ p2, t1.at fun o q => k j1 (by simp) o q, t2.at fun o q => k j2 (by simp) o q⟩
  item := by
    rintro X rfl rfl rfl hc i pins s σ H E I hf ⟨x0, y0, Z⟩ ⟨xs, ys, x, y, qx, qy, hx, hy⟩
    obtain ⟨us, rv, p, _⟩ := I.tuple qx
    obtain ⟨ws, rw_, p2, _⟩ := I.list qy
    obtain ⟨u, hu, ru⟩ := rv.get hx
    obtain ⟨w, hw, rww⟩ := rw_.get hy
    have zl : zz < s.heap.objs.size := Heap.lt_size Z.zp
    refine zm_nextI D Z p p2.isList (x := u) (y := w) (by simpa using hu) (by simpa using hw) fun hb Z2 pT nb hk => ?_
    refine ⟨_, rfl, wpAny_letOwnedTupleGo_zip (s := { s with heap := hb }) Z2.zp fun hd zd sb => ?_⟩
    have up : ∀ c o, c ≠ zz → hb.get? c = some o → hd.get? c = some o := fun c o n e => (sb.2 c n).trans e
    have pT2 := up _ _ (Nat.ne_of_gt zl) pT
    have nw : ObjOk X.prog X.w (upd H s.heap.objs.size (.tup [x, y])) hd s.heap.objs.size (.tup [x, y]) := ⟨by show 2 ≤ sizeLine; decide, [u, w], .cons ru (.cons rww .nil), ⟨_, pT2, rfl, _, rfl⟩⟩
    have J : L2.Inv X pins σ (upd H s.heap.objs.size (.tup [x, y])) { s with heap := hd } := I.turnedNew (t' := s.toks) (ch := [zz, T1, T2, j1, j2]) (fun c o nm e => by
      simp only [List.mem_cons, List.not_mem_nil, or_false, not_or] at nm
      exact up c o nm.1 (hk c o nm.1 nm.2.2.1 nm.2.2.2.1 nm.2.2.2.2 e)) hf (Nat.le_refl _) nw
    have lt : ∀ c ∈ [zz, T1, T2, j1, j2], c < s.heap.objs.size := fun c m => by
      obtain ⟨_, q1, q2, ⟨_, q3, _⟩, ⟨_, q4, _⟩⟩ := Z
      simp only [List.mem_cons, List.not_mem_nil, or_false] at m
      rcases m with rfl | rfl | rfl | rfl | rfl <;> first | exact zl | exact Heap.lt_size q1 | exact Heap.lt_size q2 | exact Heap.lt_size q3 | exact Heap.lt_size q4
    refine ⟨.ref s.heap.objs.size, _, J, rfl, ⟨_, x, y, ⟨rfl, I.hok.fresh (Nat.le_refl _)⟩, rfl, fun l hl => by rw [I.tuple_inj hl qx]; exact hx, fun l hl => by rw [I.list_inj hl qy]; exact hy⟩, ⟨u, w, zd, ?_, ?_, ?_, ?_⟩, fun c m => ?_⟩
    · exact up _ _ D.TIz Z2.p1
    · exact up _ _ D.TOz Z2.p2
    · exact Z2.t1.at fun o q => up _ o D.i1z q
    · exact Z2.t2.at fun o q => up _ o D.i2z q
    · rw [upd_ne (Nat.ne_of_lt (lt c m))]; exact (hf c m).1
  done := by
    rintro X rfl rfl rfl hc i pins s σ H E I hf ⟨x0, y0, Z⟩ ⟨xs, ys, qx, qy, he⟩
    obtain ⟨us, rv, p, _⟩ := I.tuple qx
    obtain ⟨ws, rw_, p2, _⟩ := I.list qy
    have l1 := rv.length
    have l2 := rw_.length
    have ee : us.toArray[i]? = none ∨ ws.toArray[i]? = none := he.imp (fun q => by simp; omega) fun q => by simp; omega
    refine zm_nextE (I.ok.hd hc) D Z p p2.isList ee fun hb hk => ⟨rfl, I.turnedL (t' := s.toks) (ch := [zz, T1, T2, j1, j2]) (fun c o nm e => ?_) hf⟩
    simp only [List.mem_cons, List.not_mem_nil, or_false, not_or] at nm
    exact hk c o nm.1 nm.2.2.1 nm.2.2.2.1 nm.2.2.2.2 e
  self := fun A i s Q E st q => by obtain ⟨_, _, Z⟩ := st; exact wpAny_pyIter_zip Z.zp q
/-- zip of a list or a tuple, and a list -/
def iZipS (K : PySem.W.Frag) (ta : TA) : TI := fun σ H R => ta σ H fun vs H1 => ∃ a b xs ys, vs = [.ref a, .ref b] ∧ (SqL K H1 b ys ∧ ((SqL K H1 a xs ∧ R (Itz K a b) H1) ∨ (SqT K H1 a xs ∧ R (ItzM K a b) H1)))
theorem pi_zipS {X : Cx} {e1 e2 : Expr} {ta : TA} {p pos tpos : Pos} {elts : List Expr} {kk : Nat} (hg : Gl X "zip") (hm : X.mg "zip" = none) (ha : PA X [e1, e2] ta) (h1 : starEach [e1, e2] X.env = (false, eval e1 X.env) :: starEach [e2] X.env) (h2 : (backTo pos (starEach [e2] X.env)).any (·.1) = false) :
    PI X (.Tuple elts kk tpos) (.Call (.Name "zip" p) [e1, e2] [] pos) (iZipS X.K ta) := by
  refine ⟨fun pins s σ H R I q => Call_ (ld_blt I hg hm PyProof.Rows.boot_zip (PyProof.Rows.callWith_type1 (thn (ha.run pos pins s σ H _ I q) fun us s1 ⟨vs, H1, J, r1, q1⟩ => ?_) h1 h2))⟩
  obtain ⟨a, b, xs, ys, rfl, qb, q1⟩ := q1
  obtain ⟨va, vb, rfl, ra, rb⟩ := vals2 r1
  obtain rfl : va = Value.ref a := ra
  obtain rfl : vb = Value.ref b := rb
  have fresh : ∀ c ∈ [s1.heap.objs.size + 4, s1.heap.objs.size + 2, s1.heap.objs.size + 3, s1.heap.objs.size, s1.heap.objs.size + 1], FpOk X pins H1 c := fun c m => by
    have le : s1.heap.objs.size ≤ c := by
      simp only [List.mem_cons, List.not_mem_nil, or_false] at m
      omega
    exact J.fpOk le (J.hok.fresh le)
  obtain ⟨ws, rw_, p2, _⟩ := J.list qb
  rcases q1 with ⟨qa, q1⟩ | ⟨qa, q1⟩
  · obtain ⟨us, rv, p1, _⟩ := J.list qa
    refine call_zip_2 p1.isList p2.isList fun h' z1 z2 z3 z4 z5 _ hk => wpAny_pyIter_zip z1 ⟨_, _, _, _, H1, rfl, J.kept (t' := s1.toks) hk, turn_zip (PySem.W.ktu_apart _ a b p1.lt p2.lt), ⟨z1, z2, ⟨_, _, z3⟩, z4, z5⟩, fresh, q1⟩
  · obtain ⟨us, rv, p1, _⟩ := J.tuple qa
    obtain ⟨o1, ho1, _⟩ := id p1
    refine zm_call p1 p2.isList fun h' Z hk => wpAny_pyIter_zip Z.zp ⟨_, _, _, _, H1, rfl, J.kept (t' := s1.toks) hk, turn_zm (PySem.W.ktu_apart _ a b (Heap.lt_size ho1) p2.lt), ⟨_, _, Z⟩, fresh, q1⟩
end Py

set_option Elab.async false
set_option linter.all false
set_option maxRecDepth 100000
set_option maxHeartbeats 4000000
/-! PySound4: what loops walk; targets; statements. -/
namespace Py
open PySem PySem.Spec PyProof.Rows L2

theorem _root_.L2.PI.wk {X : Cx} {tg it : Expr} {t t' : TI} (p : PI X tg it t) (h : ∀ σ H R, t' σ H R → t σ H R) : PI X tg it t' := ⟨fun pins s σ H R I q => p.run pins s σ H R I (h _ _ _ q)⟩
theorem _root_.L2.PG.wk {X : Cx} {tg : Expr} {t t' : TG} (p : PG X tg t) (h : ∀ v σ H R, t' v σ H R → t v σ H R) : PG X tg t' := ⟨fun pins s σ H v u R I r q => p.run pins s σ H v u R I r (h _ _ _ _ q)⟩
theorem _root_.L2.PGs.wk {X : Cx} {tg : List Expr} {t t' : TGs} (p : PGs X tg t) (h : ∀ v σ H R, t' v σ H R → t v σ H R) : PGs X tg t' := ⟨fun pins s σ H v u R I r q => p.run pins s σ H v u R I r (h _ _ _ _ q)⟩
theorem _root_.L2.PS.wk {X : Cx} {st : Stmt} {t t' : TS} (p : PS X st t) (h : ∀ D σ H, t' D σ H → t D σ H) : PS X st t' := ⟨fun pins s σ H D I q => p.run pins s σ H D I (h _ _ _ q)⟩
theorem _root_.L2.PSs.wk {X : Cx} {st : List Stmt} {t t' : TS} (p : PSs X st t) (h : ∀ D σ H, t' D σ H → t D σ H) : PSs X st t' := ⟨fun pins s σ H D I q => p.run pins s σ H D I (h _ _ _ q)⟩

/-! ### what a loop walks -/
/-- a walk of the layer that gives these items while live holds -/
structure Wk (M : Mo) (m1 : List Addr) (H1 : Hp) (items : List PV) (live : PH → Prop) (J : It) : Prop where
  ex : ∃ (G : Hp → Prop) (Y : Nat → Hp → V → Hp → Prop), L2.Walk J items.length G Y ∧
    (∀ (m : List Addr) (H : Hp) (h : PH), Ex m1 m → Kp M.K H1 H → RH M H m h → live h → G H) ∧
    (∀ (i : Nat) (m : List Addr) (H : Hp) (h : PH) (x : V) (H' : Hp), Ex m1 m → Kp M.K H1 H → RH M H m h → live h → i < items.length → Y i H x H' → ∃ v, items[i]? = some v ∧ RH M H' m h ∧ Kp M.K H H' ∧ RV M.K H' m v x)
def LI (M : Mo) (m : List Addr) (H : Hp) (R : It → Hp → Prop) : KI := fun items live h1 => ∀ (m1 : List Addr) (H1 : Hp) (J : It), Ex m m1 → Kp M.K H H1 → RH M H1 m1 h1 → Wk M m1 H1 items live J → R J H1
theorem LI.mono {M : Mo} {m m1 : List Addr} {H H1 : Hp} {R : It → Hp → Prop} (e : Ex m m1) (k : Kp M.K H H1) : ∀ a b c, LI M m H R a b c → LI M m1 H1 R a b c := fun a b c q m' H' J e' k' r w => q m' H' J (e.trans e') (k.trans k') r w
abbrev DI := KX → Loc → PH → KI → Prop
def tI (M : Mo) (W : WX) (d : DI) : TI := fun σ H R => ∃ m l h, RH M H m h ∧ RL M.K H m l σ ∧ d (LX M W σ m H) l h (LI M m H R)
theorem RVs.get' {K : PySem.W.Frag} {H : Hp} {m : List Addr} {xs : List PV} {vs : List V} {i : Nat} {x : V} (h : RVs K H m xs vs) (e : vs[i]? = some x) : ∃ v, xs[i]? = some v ∧ RV K H m v x := by
  have h1 := (List.getElem?_eq_some_iff.mp e).1
  rw [← h.len] at h1
  have e2 : xs[i]? = some xs[i] := List.getElem?_eq_getElem h1
  obtain ⟨w, e3, r⟩ := h.get e2
  rw [e] at e3; cases e3
  exact ⟨_, e2, r⟩
theorem lst_ref {h : PH} {v : PV} {xs : List PV} (e : lstOf h v = some xs) : ∃ a, v = .ref a := by
  cases v <;> first | exact ⟨_, rfl⟩ | cases e
/-- a list's live content -/
theorem live_now {M : Mo} {H1 H : Hp} {m1 m : List Addr} {h : PH} {v : PV} {p : Addr} {xs : List PV} (e : Ex m1 m) (k : Kp M.K H1 H) (r : RH M H m h) (hv : RV M.K H1 m1 v (.ref p)) (hr : ∃ a, v = .ref a) (lv : liveL v xs h) : ∃ ws, SqL M.K H p ws ∧ RVs M.K H m xs ws := by
  obtain ⟨a, rfl⟩ := hr
  obtain ⟨p', ws, e1, e2, e3⟩ := lstOf_get r (hv.mono k e _ _) lv
  cases e1
  exact ⟨ws, e2, e3⟩
theorem walk_listG {K : PySem.W.Frag} {a : Addr} {n : Nat} : L2.Walk (Itl K a) n (fun H => ∃ ws, SqL K H a ws ∧ ws.length = n) (fun i H x H' => H' = H ∧ ∀ ws, SqL K H a ws → ws[i]? = some x) :=
  ⟨fun i _ hi ⟨ws, q, e⟩ => ⟨ws, ws[i]'(by rw [e]; exact hi), q, by simp [e, hi]⟩, fun _ ⟨ws, q, e⟩ => ⟨ws, q, Nat.le_of_eq e⟩, fun _ _ _ _ _ _ y => y⟩
theorem walk_enumG {K : PySem.W.Frag} {a : Addr} {n : Nat} : L2.Walk (Ite K a) n (fun H => ∃ ws, SqL K H a ws ∧ ws.length = n) (fun i H v H' => ∃ T x, v = .ref T ∧ H T = none ∧ H' = upd H T (.tup [.int (i : Nat), x]) ∧ ∀ xs, SqL K H a xs → xs[i]? = some x) :=
  ⟨fun i _ hi ⟨ws, q, e⟩ => ⟨ws, ws[i]'(by rw [e]; exact hi), q, by simp [e, hi]⟩, fun _ ⟨ws, q, e⟩ => ⟨ws, q, Nat.le_of_eq e⟩, fun _ _ _ _ _ _ y => y⟩
theorem walk_revG {K : PySem.W.Frag} {a : Addr} {n : Nat} : L2.Walk (Itv K a n) n (fun H => ∃ ws, SqL K H a ws ∧ ws.length = n) (fun i H x H' => H' = H ∧ ∀ ws, SqL K H a ws → ws[n - 1 - i]? = some x) :=
  ⟨fun i _ hi ⟨ws, q, e⟩ => ⟨hi, ws, ws[n - 1 - i]'(by rw [e]; omega), q, by simp [e, show n - 1 - i < n by omega]⟩, fun _ _ => Nat.le_refl _, fun _ _ _ _ _ _ y => y⟩
theorem walk_zipG {K : PySem.W.Frag} {a b : Addr} {n1 n2 : Nat} : L2.Walk (Itz K a b) (min n1 n2) (fun H => (∃ ws, SqL K H a ws ∧ ws.length = n1) ∧ ∃ zs, SqL K H b zs ∧ zs.length = n2)
    (fun i H v H' => ∃ T x y, v = .ref T ∧ H T = none ∧ H' = upd H T (.tup [x, y]) ∧ (∀ xs, SqL K H a xs → xs[i]? = some x) ∧ ∀ ys, SqL K H b ys → ys[i]? = some y) :=
  ⟨fun i _ hi ⟨⟨ws, q, e⟩, zs, q', e'⟩ => ⟨ws, zs, ws[i]'(by rw [e]; omega), zs[i]'(by rw [e']; omega), q, q', by simp [e, show i < n1 by omega], by simp [e', show i < n2 by omega]⟩,
    fun _ ⟨⟨ws, q, e⟩, zs, q', e'⟩ => ⟨ws, zs, q, q', by omega⟩, fun _ _ _ _ _ _ y => y⟩
section
variable {M : Mo} {m1 : List Addr} {H1 : Hp}
theorem wk_list {v : PV} {p : Addr} {xs : List PV} (hv : RV M.K H1 m1 v (.ref p)) (hr : ∃ a, v = .ref a) : Wk M m1 H1 xs (liveL v xs) (Itl M.K p) := by
  refine ⟨_, _, walk_listG, fun m H h e k r lv => ?_, fun i m H h x H' e k r lv hi y => ?_⟩
  · obtain ⟨ws, q, rv⟩ := live_now e k r hv hr lv
    exact ⟨ws, q, rv.len.symm⟩
  · obtain ⟨rfl, y⟩ := y
    obtain ⟨ws, q, rv⟩ := live_now e k r hv hr lv
    obtain ⟨u, e1, e2⟩ := rv.get' (y ws q)
    exact ⟨u, e1, r, Kp.refl _ _, e2⟩
theorem wk_tup {p : Addr} {vs : List V} {xs : List PV} {live : PH → Prop} (h : SqT M.K H1 p vs) (rv : RVs M.K H1 m1 xs vs) : Wk M m1 H1 xs live (Itt M.K p) := by
  refine ⟨_, _, by rw [rv.len]; exact walk_tup (xs := vs), fun m H h' e k r lv => k.tup _ _ h, fun i m H h' x H' e k r lv hi y => ?_⟩
  obtain ⟨rfl, y⟩ := y
  obtain ⟨u, e1, e2⟩ := (rv.mono k e).get' y
  exact ⟨u, e1, r, Kp.refl _ _, e2⟩
theorem wk_str {s : Str} {live : PH → Prop} : Wk M m1 H1 (s.cps.toList.map fun c => .str ⟨#[c]⟩) live (Its s) := by
  refine ⟨_, _, by rw [List.length_map, Array.length_toList]; exact walk_str, fun _ _ _ _ _ _ _ => trivial, fun i m H h' x H' e k r lv hi y => ?_⟩
  obtain ⟨rfl, c, e1, rfl⟩ := y
  exact ⟨.str ⟨#[c]⟩, by rw [List.getElem?_map, Array.getElem?_toList, e1] <;> rfl, r, Kp.refl _ _, rfl⟩
theorem wk_range {lo : Int} {n : Nat} {live : PH → Prop} : Wk M m1 H1 (rangeL lo n) live (Itr lo n) := by
  refine ⟨_, _, by unfold rangeL; rw [List.length_map, List.length_range]; exact walk_range, fun _ _ _ _ _ _ _ => trivial, fun i m H h' x H' e k r lv hi y => ?_⟩
  obtain ⟨rfl, rfl⟩ := y
  have hi' : i < n := by unfold rangeL at hi; simpa using hi
  exact ⟨.int (lo + (i : Nat)), by unfold rangeL; rw [List.getElem?_map, List.getElem?_range hi'] <;> rfl, r, Kp.refl _ _, rfl⟩
theorem enum_get : ∀ (xs : List PV) (n i : Nat), (enumFrom n xs)[i]? = xs[i]?.map fun x => .tup [.int ((n + i : Nat) : Int), x]
  | [], n, i => by simp [enumFrom]
  | x :: r, n, 0 => rfl
  | x :: r, n, i + 1 => by
    show (enumFrom (n + 1) r)[i]? = (r[i]?).map _
    rw [enum_get r (n + 1) i, show n + 1 + i = n + (i + 1) by omega]
theorem enum_len : ∀ (xs : List PV) (n : Nat), (enumFrom n xs).length = xs.length
  | [], _ => rfl
  | x :: r, n => congrArg Nat.succ (enum_len r (n + 1))
theorem zip_len : ∀ (xs ys : List PV), (zipT xs ys).length = min xs.length ys.length
  | [], ys => by simp [zipT]
  | x :: xs, [] => by simp [zipT]
  | x :: xs, y :: ys => by simp [zipT, zip_len xs ys]
theorem zip_get : ∀ (xs ys : List PV) (i : Nat) (x y : PV), xs[i]? = some x → ys[i]? = some y → (zipT xs ys)[i]? = some (.tup [x, y])
  | [], ys, i, x, y, h, _ => by simp at h
  | a :: xs, [], i, x, y, _, h => by simp at h
  | a :: xs, b :: ys, 0, x, y, h1, h2 => by simp at h1 h2; subst h1 h2; rfl
  | a :: xs, b :: ys, i + 1, x, y, h1, h2 => by
    show (zipT xs ys)[i]? = _
    exact zip_get xs ys i x y (by simpa using h1) (by simpa using h2)
theorem wk_enum {v : PV} {p : Addr} {xs : List PV} (hv : RV M.K H1 m1 v (.ref p)) (hr : ∃ a, v = .ref a) : Wk M m1 H1 (enumFrom 0 xs) (liveL v xs) (Ite M.K p) := by
  refine ⟨_, _, by rw [enum_len]; exact walk_enumG, fun m H h e k r lv => ?_, fun i m H h x H' e k r lv hi y => ?_⟩
  · obtain ⟨ws, q, rv⟩ := live_now e k r hv hr lv
    exact ⟨ws, q, rv.len.symm⟩
  · obtain ⟨T, z, rfl, hT, rfl, y⟩ := y
    obtain ⟨ws, q, rv⟩ := live_now e k r hv hr lv
    obtain ⟨u, e1, e2⟩ := rv.get' (y ws q)
    refine ⟨.tup [.int (i : Nat), u], ?_, r.tup hT, Kp.upd_new hT, ⟨T, _, rfl, .inl (.inl upd_same), ⟨_, _, rfl, rfl, RVs.one (e2.mono (Kp.upd_new hT) (Ex.refl m) _ _)⟩⟩⟩
    rw [enum_get, e1, Nat.zero_add] <;> rfl
theorem wk_zip {v u : PV} {p q : Addr} {xs ys : List PV} (hv : RV M.K H1 m1 v (.ref p)) (hr : ∃ a, v = .ref a) (hu : RV M.K H1 m1 u (.ref q)) (hs : ∃ a, u = .ref a) : Wk M m1 H1 (zipT xs ys) (fun h => liveL v xs h ∧ liveL u ys h) (Itz M.K p q) := by
  refine ⟨_, _, by rw [zip_len]; exact walk_zipG, fun m H h e k r lv => ?_, fun i m H h x H' e k r lv hi y => ?_⟩
  · obtain ⟨ws, q1, rv⟩ := live_now e k r hv hr lv.1
    obtain ⟨zs, q2, rz⟩ := live_now e k r hu hs lv.2
    exact ⟨⟨ws, q1, rv.len.symm⟩, zs, q2, rz.len.symm⟩
  · obtain ⟨T, z1, z2, rfl, hT, rfl, y1, y2⟩ := y
    obtain ⟨ws, q1, rv⟩ := live_now e k r hv hr lv.1
    obtain ⟨zs, q2, rz⟩ := live_now e k r hu hs lv.2
    obtain ⟨u1, e1, e2⟩ := rv.get' (y1 ws q1)
    obtain ⟨u2, e3, e4⟩ := rz.get' (y2 zs q2)
    have kk := Kp.upd_new (K := M.K) (o := HO.tup [z1, z2]) hT
    exact ⟨.tup [u1, u2], zip_get xs ys i u1 u2 e1 e3, r.tup hT, kk, ⟨T, _, rfl, .inl (.inl upd_same), ⟨_, _, rfl, e2.mono kk (Ex.refl m) _ _, RVs.one (e4.mono kk (Ex.refl m) _ _)⟩⟩⟩
theorem wk_zipM {u : PV} {p q : Addr} {vs : List V} {xs ys : List PV} {L : PH → Prop} (hx : SqT M.K H1 p vs) (rx : RVs M.K H1 m1 xs vs) (hu : RV M.K H1 m1 u (.ref q)) (hs : ∃ a, u = .ref a) : Wk M m1 H1 (zipT xs ys) (fun h => L h ∧ liveL u ys h) (ItzM M.K p q) := by
  refine ⟨fun H => SqT M.K H p vs ∧ ∃ zs, SqL M.K H q zs ∧ zs.length = ys.length, fun i H v H' => ∃ T x y, (v = .ref T ∧ H T = none) ∧ (H' = upd H T (.tup [x, y]) ∧ ((∀ xs, SqT M.K H p xs → xs[i]? = some x) ∧ ∀ ys, SqL M.K H q ys → ys[i]? = some y)), ⟨fun i H hi ⟨q1, zs, q2, e2⟩ => ?_, fun H ⟨q1, zs, q2, e2⟩ => ?_, fun _ _ _ _ _ _ y => y⟩, fun m H h e k r lv => ?_, fun i m H h x H' e k r lv hi y => ?_⟩
  · rw [zip_len] at hi
    have l1 := rx.len
    exact ⟨vs, zs, vs[i]'(by omega), zs[i]'(by omega), q1, q2, by simp [show i < vs.length by omega], by simp [show i < zs.length by omega]⟩
  · rw [zip_len]
    have l1 := rx.len
    exact ⟨vs, zs, q1, q2, by omega⟩
  · obtain ⟨zs, q2, rz⟩ := live_now e k r hu hs lv.2
    exact ⟨k.tup _ _ hx, zs, q2, rz.len.symm⟩
  · obtain ⟨T, z1, z2, ⟨rfl, hT⟩, rfl, y1, y2⟩ := y
    obtain ⟨zs, q2, rz⟩ := live_now e k r hu hs lv.2
    obtain ⟨u1, e1, e2⟩ := (rx.mono k e).get' (y1 vs (k.tup _ _ hx))
    obtain ⟨u2, e3, e4⟩ := rz.get' (y2 zs q2)
    have kk := Kp.upd_new (K := M.K) (o := HO.tup [z1, z2]) hT
    exact ⟨.tup [u1, u2], zip_get xs ys i u1 u2 e1 e3, r.tup hT, kk, ⟨T, _, rfl, .inl (.inl upd_same), ⟨_, _, rfl, e2.mono kk (Ex.refl m) _ _, RVs.one (e4.mono kk (Ex.refl m) _ _)⟩⟩⟩
theorem wk_keys {a : Nat} {p : Addr} {o : Obj} {kvs : List (PV × PV)} {ks : List (Key × V)} (hf : H1 p = some (.frz o (.dK ks))) (rk : RKs M.K H1 m1 kvs ks) {live : PH → Prop} : Wk M m1 H1 (kvs.map (·.1)) live (Itk p o ks) := by
  refine ⟨_, _, by rw [List.length_map, rk.len]; exact walk_keys, fun m H h e k r lv => k.frz _ _ _ hf, fun i m H h x H' e k r lv hi y => ?_⟩
  obtain ⟨rfl, q, v, e1, rfl⟩ := y
  obtain ⟨u, e2, e3⟩ := (rk.mono k e).keys.get' (i := i) (x := kV q) (by rw [List.getElem?_map, e1]; rfl)
  exact ⟨u, e2, r, Kp.refl _ _, e3⟩
theorem wk_rev {v : PV} {p : Addr} {xs : List PV} (hv : RV M.K H1 m1 v (.ref p)) (hr : ∃ a, v = .ref a) : Wk M m1 H1 xs.reverse (liveL v xs) (Itv M.K p xs.length) := by
  refine ⟨_, _, by rw [List.length_reverse]; exact walk_revG, fun m H h e k r lv => ?_, fun i m H h x H' e k r lv hi y => ?_⟩
  · obtain ⟨ws, q, rv⟩ := live_now e k r hv hr lv
    exact ⟨ws, q, rv.len.symm⟩
  · obtain ⟨rfl, y⟩ := y
    obtain ⟨ws, q, rv⟩ := live_now e k r hv hr lv
    obtain ⟨u, e1, e2⟩ := rv.get' (y ws q)
    rw [List.length_reverse] at hi
    exact ⟨u, by rw [List.getElem?_reverse hi]; exact e1, r, Kp.refl _ _, e2⟩
end
section
variable {X : Cx} {tg : Expr} {pins : List (Addr × Obj)} {σ : L2.St} {s1 : Shared} {H1 : Hp} {R : It → Hp → Prop}
theorem iter_list {a : Addr} {xs : List V} (I1 : L2.Inv X pins σ H1 s1) (hq : SqL X.K H1 a xs) (q : R (Itl X.K a) H1) : wpAny (model X.prog X.w) X.A (pyIter (.ref a)) (PIE X pins σ tg R) X.xe s1 := by
  obtain ⟨its, rv, p, hz⟩ := I1.list hq
  refine wpAny_pyIter_list p.isList ?_
  refine ⟨s1.heap.objs.size, [s1.heap.objs.size], _, _, H1, rfl, I1.kept (t' := s1.toks) fun b o e => Heap.get?_push_of_some _ e, turn_list a _, ⟨_, Heap.get?_push_size _ rfl, rfl, rfl⟩, fun b hb => ?_, q⟩
  have e : b = s1.heap.objs.size := by simpa using hb
  subst e
  exact I1.fpOk (Nat.le_refl _) (I1.hok.fresh (Nat.le_refl _))
theorem iter_tup {a : Addr} {xs : List V} (I1 : L2.Inv X pins σ H1 s1) (hq : SqT X.K H1 a xs) (q : R (Itt X.K a) H1) : wpAny (model X.prog X.w) X.A (pyIter (.ref a)) (PIE X pins σ tg R) X.xe s1 := by
  obtain ⟨its, rv, p, hz⟩ := I1.tuple hq
  refine wpAny_pyIter_tuple (show s1.heap.IsTuple a its.toArray from p) ?_
  refine ⟨s1.heap.objs.size, [s1.heap.objs.size], _, _, H1, rfl, I1.kept (t' := s1.toks) fun b o e => Heap.get?_push_of_some _ e, turn_tuple a _, ⟨_, Heap.get?_push_size _ rfl, rfl, rfl⟩, fun b hb => ?_, q⟩
  have e : b = s1.heap.objs.size := by simpa using hb
  subst e
  exact I1.fpOk (Nat.le_refl _) (I1.hok.fresh (Nat.le_refl _))
theorem iter_str {x : Str} {t : Tok} (I1 : L2.Inv X pins σ H1 s1) (q : R (Its x) H1) : wpAny (model X.prog X.w) X.A (pyIter (.str x t)) (PIE X pins σ tg R) X.xe s1 := by
  cases ha : x.cps.all (· < 128)
  · exact wpAny_pyIter_wide ha (pi_one (tk := s1.toks) I1 _ (turn_str _ x t "str_iterator" (.inr rfl)) ⟨_, Heap.get?_push_size _ rfl, rfl, rfl⟩ q)
  · exact wpAny_pyIter_ascii ha (pi_one (tk := s1.toks) I1 _ (turn_str _ x t "str_ascii_iterator" (.inl rfl)) ⟨_, Heap.get?_push_size _ rfl, rfl, rfl⟩ q)
end
/-- for .. in a value -/
theorem pi_seq {M : Mo} {X : Cx} {N : List Str} {sc : Sco} {W : WX} {k : Nat} (g : Good M X N sc W k) {tg e : Expr} {a : E} (he : PE X e (tE M W fun Y => evE M.G (callS M.G k) Y a)) : PI X tg e (tI M W fun Y => evI M.G (callS M.G k) Y (.seq a)) := by
  refine ⟨fun pins s σ H R I h => ?_⟩
  obtain ⟨m, l, hh, rh, rl, q⟩ := h
  refine thn (he.run pins s σ H (fun x H1 => ∃ m1 h1 v xs, Ex m m1 ∧ Kp M.K H H1 ∧ RH M H1 m1 h1 ∧ RV M.K H1 m1 v x ∧ itemsOf h1 v = some xs ∧ LI M m1 H1 R xs (liveL v xs) h1) I (tE_in rh rl (fun _ _ z => z) q fun m1 H1 v w h1 e1 k1 rh1 rl1 rv1 ⟨xs, q1, q2⟩ => ⟨m1, h1, v, xs, e1, k1, rh1, rv1, q1, LI.mono e1 k1 _ _ _ q2⟩)) fun u s1 ⟨x, H1, I1, r1, q1⟩ => ?_
  obtain ⟨m1, h1, v, xs, e1, k1, rh1, rv, ei, q2⟩ := q1
  have go : ∀ J, Wk M m1 H1 xs (liveL v xs) J → R J H1 := fun J wk => q2 m1 H1 J (Ex.refl m1) (Kp.refl _ H1) rh1 wk
  cases v with
  | str z =>
    cases (show x = .str z from rv)
    obtain ⟨t, rfl⟩ := r1
    cases ei
    exact iter_str I1 (go _ wk_str)
  | tup zs =>
    obtain ⟨p, vs, rfl, e2, e3⟩ := rv
    cases r1
    cases ei
    exact iter_tup I1 (xs := vs) (by rw [g.hK]; exact e2) (by rw [g.hK]; exact go _ (wk_tup e2 e3))
  | ref b =>
    have e2 : lstOf h1 (.ref b) = some xs := ei
    obtain ⟨p, vs, rfl, e3, e4⟩ := lstOf_get rh1 rv e2
    cases r1
    exact iter_list I1 (xs := vs) (by rw [g.hK]; exact e3) (by rw [g.hK]; exact go _ (wk_list rv ⟨b, rfl⟩))
  | non => cases ei
  | bl _ => cases ei
  | int _ => cases ei

/-- for .. in a locked dict -/
theorem pi_keysG {M : Mo} {X : Cx} {W : WX} {k : Nat} {tg e : Expr} {a : E} (he : PE X e (tE M W fun Y => evE M.G (callS M.G k) Y a)) : PI X tg e (tI M W fun Y => evI M.G (callS M.G k) Y (.keys a)) := by
  refine (pi_keys he).wk fun σ H R q => ?_
  obtain ⟨m, l, h, rh, rl, q⟩ := q
  refine tE_in rh rl (fun _ _ z => z) q fun m1 H1 v w h1 e1 k1 rh1 rl1 rv1 q1 => ?_
  obtain ⟨b, kvs, rfl, e2, q2⟩ := q1
  obtain ⟨p, ep, rfl⟩ := rv1
  obtain ⟨ks, ⟨o, e3⟩, rk⟩ := rh1.obj _ _ _ e2 ep
  exact ⟨p, o, rfl, .inl ⟨ks, e3, q2 m1 H1 _ e1 k1 rh1 (wk_keys (a := b) e3 rk)⟩⟩
end Py

set_option Elab.async false
set_option linter.all false
set_option maxRecDepth 100000
set_option maxHeartbeats 4000000
/-! PySound5: expressions, what loops walk, targets. -/
namespace Py
open PySem PySem.Spec PyProof.Rows L2
section
variable {M : Mo} {k : Nat}
def LG (M : Mo) (m : List Addr) (H : Hp) (Q : L2.St → Hp → Prop) : Loc → PH → Prop := fun l' h' => ∀ (m' : List Addr) (H' : Hp) (σ' : L2.St), Ex m m' → Kp M.K H H' → RH M H' m' h' → RL M.K H' m' l' σ' → Q σ' H'
def tG (M : Mo) (d : PV → Loc → PH → (Loc → PH → Prop) → Prop) : TG := fun w σ H Q => ∃ m l h v, RH M H m h ∧ RL M.K H m l σ ∧ RV M.K H m v w ∧ d v l h (LG M m H Q)
def tGs (M : Mo) (d : List PV → Loc → PH → (Loc → PH → Prop) → Prop) : TGs := fun w σ H Q => ∃ m l h v, RH M H m h ∧ RL M.K H m l σ ∧ RVs M.K H m v w ∧ d v l h (LG M m H Q)
theorem LG.mono {m m1 : List Addr} {H H1 : Hp} {Q : L2.St → Hp → Prop} (e : Ex m m1) (k : Kp M.K H H1) : ∀ a b, LG M m H Q a b → LG M m1 H1 Q a b := fun a b q m' H' σ' e' k' r rl => q m' H' σ' (e.trans e') (k.trans k') r rl
theorem loc_of {dc : Bool} {X : Cx} {N : List Str} {sc : Sco} {W : WX} (g : Good M X N sc W k) (hc : dc = true → ∀ x, sc.lookup x = some .cell → X.fn x = true) {x : Str} (h : locB dc sc x = true) : L2.Loc X.env.scope x ∧ (X.fn x = true ∨ X.env.scope.names.lookup x = some .local) := by
  unfold locB at h
  unfold L2.Loc
  rw [g.sc]
  split at h
  · rename_i e; exact ⟨.inl e, .inr e⟩
  · rename_i e; exact ⟨.inr e, .inl (hc h x e)⟩
  · cases h
theorem RL.set {K : PySem.W.Frag} {H : Hp} {m : List Addr} {l : Py.Loc} {σ : L2.St} {i : Nat} {v : PV} {w : V} (r : RL K H m l σ) (rv : RV K H m v w) : RL K H m (l.set i (some v)) (σ.set i (some w)) := by
  refine ⟨by simp [r.1], fun j u e => ?_⟩
  by_cases h : j = i
  · subst h
    have hl := (List.getElem?_eq_some_iff.mp e).1
    rw [List.length_set] at hl
    rw [List.getElem?_set_self hl] at e
    cases e
    exact ⟨w, List.getElem?_set_self (by rw [← r.1]; exact hl), rv⟩
  · rw [List.getElem?_set_ne (Ne.symm h)] at e
    obtain ⟨z, e2, e3⟩ := r.2 j u e
    exact ⟨z, by rw [List.getElem?_set_ne (Ne.symm h)]; exact e2, e3⟩
theorem as_each {dc : Bool} {N : List Str} {sc : Sco} {t : T} {x : Expr} (h : mT M.toMe dc N sc t x = true) (env : Env) (r : List Expr) : assignEach (x :: r) env = (false, assign x env) :: assignEach r env := by
  cases x <;> first | rfl | (cases t <;> exact absurd h Bool.false_ne_true)
theorem as_len {dc : Bool} {N : List Str} {sc : Sco} (env : Env) : ∀ {ts : Ts} {xs : List Expr}, mTs M.toMe dc N sc ts xs = true → (assignEach xs env).length = xs.length ∧ (assignEach xs env).findIdx? (·.1) = none
  | .nil, [], _ => ⟨rfl, rfl⟩
  | .nil, _ :: _, h => absurd h Bool.false_ne_true
  | .cons _ _, [], h => absurd h Bool.false_ne_true
  | .cons t ts, x :: xs, h => by
    obtain ⟨h1, h2⟩ := ba h
    obtain ⟨e1, e2⟩ := as_len env h2
    rw [as_each h1 env]
    exact ⟨congrArg Nat.succ e1, by rw [List.findIdx?_cons, e2] <;> rfl⟩
theorem lenTs_of {dc : Bool} {N : List Str} {sc : Sco} : ∀ {ts : Ts} {xs : List Expr}, mTs M.toMe dc N sc ts xs = true → lenTs ts = xs.length
  | .nil, [], _ => rfl
  | .nil, _ :: _, h => absurd h Bool.false_ne_true
  | .cons _ _, [], h => absurd h Bool.false_ne_true
  | .cons t ts, x :: xs, h => congrArg Nat.succ (lenTs_of (ba h).2)

/-! ### names forgotten -/
theorem wipe_set {σ : L2.St} {i : Nat} {x : V} : ∀ {vs : List Nat}, i ∈ vs → wipe (σ.set i (some x)) vs = wipe σ vs
  | v :: vs, h => by
    by_cases hi : i ∈ vs
    · show (wipe (σ.set i (some x)) vs).set v none = (wipe σ vs).set v none
      rw [wipe_set hi]
    · have e : i = v := by
        rcases List.mem_cons.mp h with e | e
        · exact e
        · exact absurd e hi
      subst e
      have : ∀ (vs : List Nat) (σ : L2.St), i ∉ vs → wipe (σ.set i (some x)) vs = (wipe σ vs).set i (some x) := by
        intro vs
        induction vs with
        | nil => intro σ _; rfl
        | cons w r ih =>
          intro σ hn
          show (wipe (σ.set i (some x)) r).set w none = ((wipe σ r).set w none).set i (some x)
          rw [ih σ (fun z => hn (List.mem_cons_of_mem _ z)), List.set_comm _ _ (show i ≠ w from fun z => hn (by rw [z]; exact List.mem_cons_self ..))]
      show (wipe (σ.set i (some x)) vs).set i none = (wipe σ vs).set i none
      rw [this vs σ hi, List.set_set]
theorem wipe_none {σ : L2.St} {i : Nat} : ∀ {vs : List Nat}, i ∈ vs → (L2.wipe σ vs).set i none = L2.wipe σ vs
  | v :: vs, h => by
    show ((L2.wipe σ vs).set v none).set i none = (L2.wipe σ vs).set v none
    by_cases e : i = v
    · subst e; rw [List.set_set]
    · rw [List.set_comm _ _ (Ne.symm e), wipe_none ((List.mem_cons.mp h).resolve_left e)]
theorem wipe_sub {σ : L2.St} {vs : List Nat} : ∀ {ws : List Nat}, (∀ i ∈ ws, i ∈ vs) → L2.wipe (L2.wipe σ vs) ws = L2.wipe σ vs
  | [], _ => rfl
  | w :: ws, h => by
    show (L2.wipe (L2.wipe σ vs) ws).set w none = _
    rw [wipe_sub (fun i hi => h i (List.mem_cons_of_mem _ hi)), wipe_none (h w (List.mem_cons_self ..))]
theorem wipe_wipe {σ : L2.St} {vs : List Nat} : L2.wipe (L2.wipe σ vs) vs = L2.wipe σ vs := wipe_sub fun _ h => h
theorem RL.wipe {K : PySem.W.Frag} {H : Hp} {m : List Addr} {l : Py.Loc} {σ : L2.St} (r : RL K H m l σ) : ∀ vs : List Nat, RL K H m (wipeL l vs) (L2.wipe σ vs)
  | [] => r
  | v :: vs => by
    have ih := r.wipe vs
    refine ⟨by show ((wipeL l vs).set v none).length = ((L2.wipe σ vs).set v none).length; simp [ih.1], fun j u e => ?_⟩
    have e : ((wipeL l vs).set v none)[j]? = some (some u) := e
    by_cases h : j = v
    · subst h
      rw [List.getElem?_set] at e
      simp at e
    · rw [List.getElem?_set_ne (Ne.symm h)] at e
      obtain ⟨z, e2, e3⟩ := ih.2 j u e
      exact ⟨z, by show ((L2.wipe σ vs).set v none)[j]? = _; rw [List.getElem?_set_ne (Ne.symm h)]; exact e2, e3⟩
/-- a target of names: what is set is forgotten by vs -/
def LGn (M : Mo) (m : List Addr) (H : Hp) (vs : List Nat) (σ : L2.St) (Q : L2.St → Hp → Prop) : Py.Loc → PH → Prop := fun l' h' => ∀ (m' : List Addr) (H' : Hp) (σ' : L2.St), Ex m m' → Kp M.K H H' → RH M H' m' h' → RL M.K H' m' l' σ' → L2.wipe σ' vs = L2.wipe σ vs → Q σ' H'
def tGn (M : Mo) (vs : List Nat) (d : PV → Py.Loc → PH → (Py.Loc → PH → Prop) → Prop) : TG := fun w σ H Q => ∃ m l h v, RH M H m h ∧ RL M.K H m l σ ∧ RV M.K H m v w ∧ d v l h (LGn M m H vs σ Q)
def tGns (M : Mo) (vs : List Nat) (d : List PV → Py.Loc → PH → (Py.Loc → PH → Prop) → Prop) : TGs := fun w σ H Q => ∃ m l h v, RH M H m h ∧ RL M.K H m l σ ∧ RVs M.K H m v w ∧ d v l h (LGn M m H vs σ Q)
theorem pg_two {X : Cx} {es : List Expr} {kk n : Nat} {pos : Pos} {t : TGs} (hc : X.calm = true) (p : PGs X es t) (hn : (assignEach es X.env).length = n) (hst : (assignEach es X.env).findIdx? (·.1) = none) :
    PG X (.Tuple es kk pos) (fun v σ H Q => gTup X.K n t v σ H Q ∨ gUnl X.K n t v σ H Q) :=
  ⟨fun pins s σ H v u Q I r hw => hw.elim (fun q => (pg_tup hc p hn hst).run pins s σ H v u Q I r q) fun q => (pg_unl hc p hn hst).run pins s σ H v u Q I r q⟩
mutual
theorem sGn : ∀ (t : T) (X : Cx) (N : List Str) (sc : Sco) (W : WX) (Y : KX) (x : Expr) (vs : List Nat), Good M X N sc W k → tnB t = true → (∀ i ∈ tNs t, i ∈ vs) → mT M.toMe false N sc t x = true → PG X x (tGn M vs fun v => evG M.G (callS M.G k) Y t v)
  | .nm i, X, N, sc, W, Y, x, vs, g, ht, hv, hm => by
    cases x <;> first | exact absurd hm Bool.false_ne_true | skip
    obtain ⟨h1, h2⟩ := ba hm
    obtain ⟨l1, l2⟩ := loc_of g (fun z => absurd z Bool.false_ne_true) h2
    refine (pg_name (i := i) (by rw [g.hN]; exact g.nd) (by rw [g.hN]; exact of_decide_eq_true h1) l1 l2).wk fun w σ H Q q => ?_
    obtain ⟨m, l, h, v, rh, rl, rv, q⟩ := q
    exact q.2 m H _ (Ex.refl m) (Kp.refl _ H) rh (rl.set rv) (wipe_set (hv i (List.mem_singleton.mpr rfl)))
  | .tup ts, X, N, sc, W, Y, x, vs, g, ht, hv, hm => by
    cases x <;> first | exact absurd hm Bool.false_ne_true | skip
    rename_i xs kk pos
    have hm : mTs M.toMe false N sc ts xs = true := hm
    obtain ⟨a1, a2⟩ := as_len X.env hm
    refine (pg_two (n := xs.length) g.calm (sGns ts X N sc W Y xs vs g ht hv hm) a1 a2).wk fun w σ H Q q => ?_
    obtain ⟨m, l, h, v, rh, rl, rv, zs, es, el, q⟩ := q
    cases v with
    | tup ys =>
      cases (show ys = zs from Option.some.inj es)
      obtain ⟨p, ws, rfl, e1, e2⟩ := rv
      exact .inl ⟨p, ws, rfl, by rw [g.hK]; exact e1, by rw [← e2.len, el]; exact lenTs_of hm, m, l, h, _, rh, rl, e2, q⟩
    | ref a =>
      obtain ⟨p, ws, rfl, e1, e2⟩ := lstOf_get rh rv es
      exact .inr ⟨p, ws, rfl, by rw [g.hK]; exact e1, by rw [← e2.len, el]; exact lenTs_of hm, m, l, h, _, rh, rl, e2, q⟩
    | _ => cases es
  | .attr _ _, X, N, sc, W, Y, x, vs, g, ht, hv, hm => absurd ht Bool.false_ne_true
  | .sub _ _, X, N, sc, W, Y, x, vs, g, ht, hv, hm => absurd ht Bool.false_ne_true
theorem sGns : ∀ (ts : Ts) (X : Cx) (N : List Str) (sc : Sco) (W : WX) (Y : KX) (xs : List Expr) (vs : List Nat), Good M X N sc W k → tnsB ts = true → (∀ i ∈ tsNs ts, i ∈ vs) → mTs M.toMe false N sc ts xs = true → PGs X xs (tGns M vs fun v => evGs M.G (callS M.G k) Y ts v)
  | .nil, X, N, sc, W, Y, [], vs, g, ht, hv, hm => pgs_nil.wk fun w σ H Q q => by
    obtain ⟨m, l, h, v, rh, rl, rv, e, q⟩ := q
    subst e
    exact ⟨rv, q m H σ (Ex.refl m) (Kp.refl _ H) rh rl rfl⟩
  | .nil, X, N, sc, W, Y, _ :: _, vs, g, ht, hv, hm => absurd hm Bool.false_ne_true
  | .cons _ _, X, N, sc, W, Y, [], vs, g, ht, hv, hm => absurd hm Bool.false_ne_true
  | .cons t ts, X, N, sc, W, Y, x :: xs, vs, g, ht, hv, hm => by
    obtain ⟨h1, h2⟩ := ba hm
    obtain ⟨t1, t2⟩ := ba (show (tnB t && tnsB ts) = true from ht)
    refine (pgs_cons (sGn t X N sc W Y x vs g t1 (fun i hi => hv i (List.mem_append_left _ hi)) h1) (sGns ts X N sc W Y xs vs g t2 (fun i hi => hv i (List.mem_append_right _ hi)) h2) (by rw [as_each h1 X.env] <;> rfl)).wk fun w σ H Q q => ?_
    obtain ⟨m, l, h, v, rh, rl, rv, y, r, e, q⟩ := q
    subst e
    obtain ⟨w1, wr, rfl, r1, r2⟩ := rv
    refine ⟨w1, wr, rfl, m, l, h, y, rh, rl, r1, evG_mono (csle M k) (fun _ _ z => z) t y l h _ _ (fun l1 h1 q1 m1 H1 σ1 e1 k1 rh1 rl1 w1 => ?_) q⟩
    exact ⟨m1, l1, h1, r, rh1, rl1, r2.mono k1 e1, evGs_mono (csle M k) (fun _ _ z => z) ts r l1 h1 _ _ (fun l2 h2 q2 m2 H2 σ2 e2 k2 rh2 rl2 w2 => q2 m2 H2 σ2 (e1.trans e2) (k1.trans k2) rh2 rl2 (w2.trans w1)) q1⟩
end

/-! ### comprehensions -/
theorem Good.blk {X : Cx} {N : List Str} {sc : Sco} {W : WX} (g : Good M X N sc W k) (s : Shared) (H : Hp) {scope : Scope} (C : Addr) (cl : List (Str × Addr)) (fp : List Addr) (kd : scope.kind = .function) :
    Good M (X.blk s H scope (compEnvC scope cl C X.env) fp) N (relB scope sc) (fun _ _ _ _ => False) k where
  hN := g.hN
  nd := g.nd
  hK := g.hK
  sc := by
    show (relabel scope X.env).names = relB scope sc
    have e : ∀ n : Str, X.env.kindOf n = sc.lookup n := fun n => by show X.env.scope.names.lookup n = _; rw [g.sc]
    have f : (X.env.scope.kind == ScopeKind.function) = true := by rw [g.kd]; rfl
    unfold relabel relB
    simp only [e, f, Bool.and_true]
  calm := g.calm
  tk := fun u s' ⟨_, _, _, _, _, _, _, _, _, _, _, _, _, _, _, _, w⟩ => w.elim
  room := g.room
  gd := g.gd
  kd := kd
  glo := g.glo
  fns := g.fns
  cls := g.cls
  fng := g.fng
theorem blk_ok {X : Cx} {N : List Str} {sc : Sco} {W : WX} (g : Good M X N sc W k) {scope : Scope} {own : List (Str × Nat)} (h : blkB N sc scope own = true) : BlkOk X.N X.env.scope scope own := by
  have ok := blkOk_by h
  refine ⟨ok.kind, ok.uniq, by rw [g.hN]; exact ok.ix, fun y hy e => ?_, by rw [g.hN]; exact ok.own⟩
  rw [g.sc]
  exact ok.free y hy e
theorem own_ix (N : List Str) (t : T) : (ownOf N t).map (·.2) = tNs t := by
  unfold ownOf
  rw [List.map_map]
  exact List.map_id' _
theorem compL_live {live : PH → Prop} {d : Nat} {body : PV → PH → (Option PV → PH → Prop) → Prop} {fin : PH → Prop} : ∀ {xs : List PV} {h : PH}, compL live d body fin xs h → live h
  | [], _, q => q.1
  | _ :: _, _, q => q.1
def tOC (M : Mo) (W : WX) (d : DT) : TT := tT M W d
/-- a comprehension's reading -/
theorem lc_in {elt : E} {t : T} {it : I} {cond : OC} {W : WX} {σ : L2.St} {H : Hp} {Q : VK} (q : tE M W (fun Y => evE M.G (callS M.G k) Y (.lc elt t it cond)) σ H Q) :
    tLc (tI M W fun Y => evI M.G (callS M.G k) Y it) (tGn M (tNs t) fun v => evG M.G (callS M.G k) (fun _ _ => False) t v) (tT M (fun _ _ _ _ => False) fun Y => evC M.G (callS M.G k) Y cond) (tE M (fun _ _ _ _ => False) fun Y => evE M.G (callS M.G k) Y elt) (tNs t) σ H Q := by
  obtain ⟨m, l, h, rh, rl, q⟩ := q
  refine ⟨m, l, h, rh, rl, evI_mono (csle M k) (fun _ _ z => z) it l h _ _ (fun items live h1 cl m1 H1 J e1 k1 rh1 wk D hD => ?_) q⟩
  obtain ⟨G, Y, walk, hG, hY⟩ := wk.ex
  have rl1 := rl.mono k1 e1
  have len1 : m1.length = h1.length := rh1.len
  have kD : Kp M.K H1 (upd H1 D (.lst [])) := Kp.upd_new hD
  have nofalse : ∀ {σ m H} (x : XV) (h : PH), (fun _ _ => False : KX) x h → LX M (fun _ _ _ _ => False) σ m H x h := fun x h z => z.elim
  refine lc_it walk (fun i H' => ∃ m' h', Ex (m1 ++ [D]) m' ∧ Kp M.K (upd H1 D (.lst [])) H' ∧ RH M H' m' h' ∧ compL live h1.length _ _ (items.drop i) h') ⟨m1 ++ [D], _, Ex.refl _, Kp.refl _ _, rh1.new (o := .lst []) hD ⟨[], upd_same, rfl⟩ rfl, cl⟩ ?_ ?_ ?_
  · rintro i H' hi ⟨m', h', ex, kp, rh', c⟩
    exact hG m' H' h' ((Ex.app m1 D).trans ex) (kD.trans kp) rh' (compL_live c)
  · rintro i x H' H2 hi ⟨m', h', ex, kp, rh', c⟩ y
    have exm := (Ex.app m1 D).trans ex
    have kpm := kD.trans kp
    obtain ⟨v, ev, rh2, k2, rv⟩ := hY i m' H' h' x H2 exm kpm rh' (compL_live c) hi y
    have eI : items.drop i = v :: items.drop (i + 1) := by
      obtain ⟨hlt, e⟩ := List.getElem?_eq_some_iff.mp ev
      rw [List.drop_eq_getElem_cons hlt, e]
    rw [eI] at c
    obtain ⟨_, c⟩ := c
    refine ⟨m', wipeL l (tNs t), h', v, rh2, (rl1.mono (kpm.trans k2) exm).wipe (tNs t), rv, evG_mono (csle M k) (fun _ _ z => z) t v _ _ _ _ (fun l3 h3 c m3 H3 σ3 e3 k3 rh3 rl3 w3 => ⟨w3.trans wipe_wipe, ?_⟩) c⟩
    refine ⟨m3, l3, h3, rh3, rl3, evC_mono (csle M k) nofalse cond l3 h3 _ _ (fun b h4 c m4 H4 e4 k4 rh4 => ?_) c⟩
    cases b with
    | false => exact ⟨m4, h4, (ex.trans e3).trans e4, ((kp.trans k2).trans k3).trans k4, rh4, c⟩
    | true =>
      refine ⟨m4, l3, h4, rh4, rl3.mono k4 e4, evE_mono (csle M k) nofalse elt l3 h4 _ _ (fun y h5 c m5 H5 z e5 k5 rh5 rv5 => ?_) c⟩
      obtain ⟨acc, ea, hl, c⟩ := c
      have e15 := ((ex.trans e3).trans e4).trans e5
      have eD : m5[h1.length]? = some D := e15 _ _ (by rw [← len1]; simp)
      obtain ⟨ws, hw, rw_⟩ := rh5.obj _ _ _ ea eD
      have put := rh5.put (u := .lst (ws ++ [z])) (o := .lst (acc ++ [y])) ea eD rfl rfl ⟨ws ++ [z], upd_same, (rw_.app (RVs.one rv5)).mono (Kp.upd_old hw rfl) (Ex.refl m5) _ _⟩
      exact ⟨ws, hw, by rw [← rw_.len]; exact hl, m5, _, e15, ((((kp.trans k2).trans k3).trans k4).trans k5).trans put.2, put.1, c⟩
  · rintro H' ⟨m', h', ex, kp, rh', c⟩
    rw [List.drop_length] at c
    refine c.2 m' H' (.ref D) (e1.trans ((Ex.app m1 D).trans ex)) (k1.trans (kD.trans kp)) rh' ⟨D, ex _ _ (by rw [← len1]; simp), rfl⟩
/-! ### built-in methods -/
def rBmM (M : Mo) (f : BM) : V → List V → Hp → VK → Prop := fun x xs H Q => ∃ m h v vs, RH M H m h ∧ RV M.K H m v x ∧ RVs M.K H m vs xs ∧ bmV f v vs h (LQ M m H Q)
theorem LQ.put {m : List Addr} {H : Hp} {Q : VK} {h : PH} {v : PV} {w : V} {a : Nat} {p : Addr} {u : HO} {o o0 : PO} (q : LQ M m H Q v (h.set a o)) (r : RH M H m h) (e0 : h[a]? = some o0) (ep : m[a]? = some p) (n0 : isRo o0 = false) (nf : isFrl o = false)
    (ho : Kp M.K H (upd H p u) → RO M (upd H p u) m o p) (rv : Kp M.K H (upd H p u) → RV M.K (upd H p u) m v w) : Q w (upd H p u) := by
  obtain ⟨u0, e3, n3⟩ := (r.obj a o0 p e0 ep).at n0
  have kk : Kp M.K H (upd H p u) := Kp.upd_old e3 n3
  obtain ⟨r2, _⟩ := r.put e0 ep n0 nf (ho kk)
  exact q m (upd H p u) w (Ex.refl m) kk r2 (rv kk)
theorem lst_here {m : List Addr} {H : Hp} {h : PH} {a : Nat} {x : V} {xs : List PV} (rh : RH M H m h) (rv : RV M.K H m (.ref a) x) (e : h[a]? = some (.lst xs)) : ∃ p vs, x = .ref p ∧ m[a]? = some p ∧ H p = some (.lst vs) ∧ RVs M.K H m xs vs := by
  obtain ⟨p, ep, rfl⟩ := rv
  obtain ⟨vs, e1, e2⟩ := rh.obj _ _ _ e ep
  exact ⟨p, vs, rfl, ep, e1, e2⟩
theorem RVs.rev {K : PySem.W.Frag} {H : Hp} {m : List Addr} : ∀ {xs : List PV} {vs : List V}, RVs K H m xs vs → RVs K H m xs.reverse vs.reverse
  | [], vs, h => by cases (show vs = [] from h); rfl
  | x :: xs, vs, h => by
    obtain ⟨v, r, rfl, a, b⟩ := h
    rw [List.reverse_cons, List.reverse_cons]
    exact (RVs.rev b).app (RVs.one a)
theorem RVs.dropLast {K : PySem.W.Frag} {H : Hp} {m : List Addr} {xs : List PV} {vs : List V} (h : RVs K H m xs vs) : RVs K H m xs.dropLast vs.dropLast := by
  rw [List.dropLast_eq_take, List.dropLast_eq_take, h.len]
  exact h.take _
def bmId : BM → String
  | .append => "list.append" | .extend => "list.extend" | .pop0 => "list.pop" | .reverse => "list.reverse" | .clear => "list.clear" | .pop1 => "list.pop" | .join => "str.join" | .split => "str.split" | .startswith => "str.startswith" | .isalnum => "str.isalnum" | .upper => "str.upper" | .insert => "list.insert" | .index => "list.index" | .indexX => "list.index" | .sindex => "str.index" | _ => "list.append"
theorem RVs.erase {K : PySem.W.Frag} {H : Hp} {m : List Addr} : ∀ {xs : List PV} {vs : List V} (i : Nat), RVs K H m xs vs → RVs K H m (xs.eraseIdx i) (vs.eraseIdx i)
  | [], vs, i, h => by cases (show vs = [] from h); rfl
  | x :: xs, vs, 0, h => by obtain ⟨v, r, rfl, a, b⟩ := h; exact b
  | x :: xs, vs, i + 1, h => by obtain ⟨v, r, rfl, a, b⟩ := h; exact ⟨v, _, rfl, a, RVs.erase i b⟩
theorem sBm {X : Cx} (hK : X.K = M.K) (hu : X.A.units + 66 < cLine) (f : BM) (n : Nat) (hb : bmB f n = true) : MtR X (bmId f) (rBmM M f) := by
  intro pins s σ H x xs v us Q I rx rxs h
  obtain ⟨m, h, w, ws, rh, rw_, rws, q⟩ := h
  cases f <;> first | (exfalso; revert hb; unfold bmB; cases n <;> (intro hb; cases hb); done) | skip
  all_goals (unfold bmV at q; split at q)
  all_goals first | exact q.elim | (rename_i h0; cases h0; done) | skip
  · obtain ⟨ys, e, hl, q⟩ := q
    obtain ⟨p, vs, rfl, ep, e1, e2⟩ := lst_here rh rw_ e
    obtain ⟨z, rfl, rz⟩ := rws.one_of
    exact mt_append pins s σ H _ _ v us Q I rx rxs ⟨p, vs, z, rfl, rfl, e1, by rw [← e2.len]; exact hl, q.put rh e ep rfl rfl (fun kk => ⟨_, upd_same, (e2.app (RVs.one rz)).mono kk (Ex.refl m) _ _⟩) (fun _ => rfl)⟩
  · obtain ⟨ys, zs, e, e', hl, q⟩ := q
    obtain ⟨p, vs, rfl, ep, e1, e2⟩ := lst_here rh rw_ e
    obtain ⟨z, rfl, rz⟩ := rws.one_of
    obtain ⟨p', vs', rfl, ep', e3, e4⟩ := lst_here rh rz e'
    exact mt_extend pins s σ H _ _ v us Q I rx rxs ⟨p, p', vs, vs', rfl, rfl, e1, e3, by rw [← e2.len, ← e4.len]; exact hl, q.put rh e ep rfl rfl (fun kk => ⟨_, upd_same, (e2.app e4).mono kk (Ex.refl m) _ _⟩) (fun _ => rfl)⟩
  · obtain ⟨ys, y, e, ey, q⟩ := q
    obtain ⟨p, vs, rfl, ep, e1, e2⟩ := lst_here rh rw_ e
    cases (show xs = [] from rws)
    rw [e2.len] at ey
    obtain ⟨z, ez, rz⟩ := e2.get ey
    exact mt_pop pins s σ H _ _ v us Q I rx rxs ⟨p, vs, z, rfl, rfl, e1, ez, q.put rh e ep rfl rfl (fun kk => ⟨_, upd_same, e2.dropLast.mono kk (Ex.refl m) _ _⟩) (fun kk => rz.mono kk (Ex.refl m) _ _)⟩
  · obtain ⟨ys, j, y, e, hi, hj, ey, q⟩ := q
    obtain ⟨p, vs, rfl, ep, e1, e2⟩ := lst_here rh rw_ e
    obtain ⟨z, rfl, rz⟩ := rws.one_of
    cases (show z = .int _ from rz)
    rw [e2.len] at hj
    obtain ⟨z, ez, rz⟩ := e2.get ey
    exact mt_popAt pins s σ H _ _ v us Q I rx rxs ⟨p, vs, _, j, z, rfl, rfl, e1, hi.1, hi.2, hj, ez, q.put rh e ep rfl rfl (fun kk => ⟨_, upd_same, (e2.erase j).mono kk (Ex.refl m) _ _⟩) (fun kk => rz.mono kk (Ex.refl m) _ _)⟩
  · obtain ⟨ys, e, hl, hi, q⟩ := q
    obtain ⟨p, vs, rfl, ep, e1, e2⟩ := lst_here rh rw_ e
    obtain ⟨z1, z, rfl, r1, rz⟩ := rws.two_of
    cases (show z1 = .int _ from r1)
    exact mt_insert pins s σ H _ _ v us Q I rx rxs ⟨p, vs, _, z, rfl, rfl, e1, by rw [← e2.len]; exact hl, hi.1, by omega, q.put rh e ep rfl rfl (fun kk => ⟨_, upd_same, (((e2.take _).app (RVs.one rz)).app (e2.drop _)).mono kk (Ex.refl m) _ _⟩) (fun _ => rfl)⟩
  · obtain ⟨ys, e, q⟩ := q
    obtain ⟨p, vs, rfl, ep, e1, e2⟩ := lst_here rh rw_ e
    cases (show xs = [] from rws)
    exact mt_reverse pins s σ H _ _ v us Q I rx rxs ⟨p, vs, rfl, rfl, e1, q.put rh e ep rfl rfl (fun kk => ⟨_, upd_same, e2.rev.mono kk (Ex.refl m) _ _⟩) (fun _ => rfl)⟩
  · obtain ⟨ys, e, q⟩ := q
    obtain ⟨p, vs, rfl, ep, e1, e2⟩ := lst_here rh rw_ e
    cases (show xs = [] from rws)
    exact mt_clear pins s σ H _ _ v us Q I rx rxs ⟨p, vs, rfl, rfl, e1, q.put rh e ep rfl rfl (fun kk => ⟨[], upd_same, rfl⟩) (fun _ => rfl)⟩
  · obtain ⟨ys, j, z, e, f, hz, hj, hno, q⟩ := q
    obtain ⟨p, vs, rfl, e1, e2⟩ := lstOf_get rh rw_ e
    obtain ⟨y, rfl, ry⟩ := rws.one_of
    obtain ⟨u, eu, ru⟩ := e2.get hz
    have fl : ∀ {i : Nat} {z' : PV}, ys[i]? = some z' → flP z' = true := fun {i z'} e => List.all_eq_true.mp f.2 z' (List.mem_of_getElem? e)
    refine mt_index pins s σ H _ _ v us Q I rx rxs ⟨p, vs, y, j, u, rfl, rfl, by rw [hK]; exact e1, flP_of f.1 ry, flPs_of f.2 e2, eu, ?_, fun i z' hi e' => ?_, q.at rh rfl⟩
    · rw [eqP_of (fl hz) f.1 ru ry]; exact hj
    · obtain ⟨w', e3, r3⟩ := e2.get' e'
      rw [eqP_of (fl e3) f.1 r3 ry]; exact hno i w' hi e3
  · obtain ⟨ys, e, hz, q⟩ := q
    cases (show x = .str _ from rw_)
    obtain ⟨z, rfl, rz⟩ := rws.one_of
    obtain ⟨p, zs, rfl, e1, e2⟩ := seqOf_get rh rz e
    cases e2.strs
    exact mt_join pins s σ H _ _ v us Q I rx rxs ⟨_, p, ys, rfl, rfl, by rw [hK]; exact e1, hz, q.at rh rfl⟩
  · obtain ⟨h1, h2, q⟩ := q
    cases (show x = .str _ from rw_)
    obtain ⟨z, rfl, rz⟩ := rws.one_of
    cases (show z = .str _ from rz)
    exact mt_split pins s σ H _ _ v us Q I rx rxs ⟨_, _, rfl, rfl, h1, h2, q.new rh rfl fun p hp => ⟨_, upd_same, RVs.of_strs⟩⟩
  · cases (show x = .str _ from rw_)
    obtain ⟨z, rfl, rz⟩ := rws.one_of
    cases (show z = .str _ from rz)
    exact mt_startswith pins s σ H _ _ v us Q I rx rxs ⟨_, _, rfl, rfl, q.at rh rfl⟩
  · cases (show x = .str _ from rw_)
    cases (show xs = [] from rws)
    exact mt_isalnum pins s σ H _ _ v us Q I rx rxs ⟨_, rfl, rfl, trivial, q.at rh rfl⟩
  · cases (show x = .str _ from rw_)
    cases (show xs = [] from rws)
    exact mt_upper pins s σ H _ _ v us Q I rx rxs ⟨_, rfl, rfl, q.1, q.2.at rh rfl⟩
  · obtain ⟨ys, d, ds, j, z, e, f, hz, hj, hno, q⟩ := q
    obtain ⟨p, vs, rfl, e1, e2⟩ := lstOf_get rh rw_ e
    obtain ⟨y, rfl, ry⟩ := rws.one_of
    refine mt_indexD (by omega) pins s σ H _ _ v us Q I rx rxs ⟨p, y, d, ds, j, z, rfl, rfl, ?_, ?_, f.2.2.1, f.2.2.2, hz, hj, hno, q.at rh rfl⟩
    · rw [hK]; exact Dat.dp rh (.list ds) _ _ ⟨ys, e, f.1⟩ rw_
    · rw [hK]; exact Dat.dp rh _ _ _ f.2.1 ry
  · obtain ⟨i, rest, e, q⟩ := q
    cases (show x = .str _ from rw_)
    obtain ⟨z, rfl, rz⟩ := rws.one_of
    cases (show z = .str _ from rz)
    exact mt_sindex pins s σ H _ _ v us Q I rx rxs ⟨_, _, i, rest, rfl, rfl, e, q.at rh rfl⟩
theorem tyN_tyV {K : PySem.W.Frag} {m : List Addr} {H : Hp} {h : PH} {v : PV} {x : V} {T : String} (hK : K = M.K) (rh : RH M H m h) (rv : RV M.K H m v x) (e : tyN h v = some T) (hT : T = "list" ∨ T = "str") : tyV K T x H := by
  subst hK
  cases v with
  | str z => cases (show x = .str z from rv); cases e; rfl
  | ref a =>
    unfold tyN at e
    dsimp only at e
    have go : ∀ xs, lstOf h (.ref a) = some xs → T = "list" → tyV M.K T x H := fun xs e2 e3 => by
      obtain ⟨p, vs, rfl, e4, _⟩ := lstOf_get rh rv e2
      exact .inl ⟨e3, vs, e4⟩
    split at e
    · rename_i xs e2
      cases e
      exact go xs (by unfold lstOf; dsimp only; rw [e2]) rfl
    · rename_i xs e2
      cases e
      exact go xs (by unfold lstOf; dsimp only; rw [e2]) rfl
    · cases e
      rcases hT with h | h <;> exact absurd h (by decide)
    · cases e
      rcases hT with h | h <;> exact absurd h (by decide)
    · cases e
  | tup xs => cases e; rcases hT with h | h <;> exact absurd h (by decide)
  | non => cases e; rcases hT with h | h <;> exact absurd h (by decide)
  | bl b => cases e; rcases hT with h | h <;> exact absurd h (by decide)
  | int b => cases e; rcases hT with h | h <;> exact absurd h (by decide)
theorem base_of {o : Expr} (h : baseB o = true) (name : Str) (env : Env) : attributeBase o name env (eval o env) = eval o env := by
  cases o with
  | Call f as ks p => cases f <;> first | rfl | (cases as <;> first | rfl | (cases ks <;> first | rfl | exact absurd h Bool.false_ne_true))
  | _ => rfl
/-- o.m(..) of a built-in type -/
theorem pe_bmM {X : Cx} {N : List Str} {sc : Sco} {W : WX} (g : Good M X N sc W k) {f : BM} {o : E} {es : Es} {y : Expr} {xs : List Expr} {name : Str} {p q : Pos} (hb : bmB f xs.length = true) (hn : bmNm f = name) (hl : (p.endLine == q.line) = true) (hy : baseB y = true)
    (ho : PE X y (tE M W fun Y => evE M.G (callS M.G k) Y o)) (hm : mEs M.toMe N sc es xs = true) (ha : PA X xs (tA M W fun Y => evEs M.G (callS M.G k) Y es)) :
    PE X (.Call (.Attribute y name p) xs [] q) (tE M W fun Y => evE M.G (callS M.G k) Y (.bm f o es)) := by
  have slot : PlainAttrs (bmT f) ∧ Slot (bmT f) name (bmId f) ∧ typeOf (.builtin (bmId f)) = pure (.type "method_descriptor") ∧ (bmT f = "list" ∨ bmT f = "str") := by
    subst hn
    cases f <;> first | (exfalso; revert hb; unfold bmB; generalize xs.length = n; cases n <;> (intro hb; cases hb); done) | skip
    · exact ⟨PySem.F.plainAttrs_list, PySem.F.slot_list_append, PySem.F.type_list_append, .inl rfl⟩
    · exact ⟨PySem.F.plainAttrs_list, PySem.F.slot_list_extend, PySem.F.type_list_extend, .inl rfl⟩
    · exact ⟨PySem.F.plainAttrs_list, PySem.F.slot_list_pop, PySem.F.type_list_pop, .inl rfl⟩
    · exact ⟨PySem.F.plainAttrs_list, PySem.F.slot_list_pop, PySem.F.type_list_pop, .inl rfl⟩
    · exact ⟨PySem.F.plainAttrs_list, PySem.F.slot_list_insert, PySem.F.type_list_insert, .inl rfl⟩
    · exact ⟨PySem.F.plainAttrs_list, PySem.F.slot_list_reverse, PySem.F.type_list_reverse, .inl rfl⟩
    · exact ⟨PySem.F.plainAttrs_list, PySem.F.slot_list_clear, PySem.F.type_list_clear, .inl rfl⟩
    · exact ⟨PySem.F.plainAttrs_list, PySem.F.slot_list_index, PySem.F.type_list_index, .inl rfl⟩
    · exact ⟨PySem.F.plainAttrs_str, PySem.F.slot_str_join, PySem.F.type_str_join, .inr rfl⟩
    · exact ⟨PySem.F.plainAttrs_str, PySem.F.slot_str_split, PySem.F.type_str_split, .inr rfl⟩
    · exact ⟨PySem.F.plainAttrs_str, PySem.F.slot_str_startswith, PySem.F.type_str_startswith, .inr rfl⟩
    · exact ⟨PySem.F.plainAttrs_str, PySem.F.slot_str_isalnum, PySem.F.type_str_isalnum, .inr rfl⟩
    · exact ⟨PySem.F.plainAttrs_str, PySem.F.slot_str_upper, PySem.F.type_str_upper, .inr rfl⟩
    · exact ⟨PySem.F.plainAttrs_list, PySem.F.slot_list_index, PySem.F.type_list_index, .inl rfl⟩
    · exact ⟨PySem.F.plainAttrs_str, PySem.F.slot_str_index, PySem.F.type_str_index, .inr rfl⟩
  obtain ⟨s1, s2, s3, s4⟩ := slot
  match xs, es, hb, hm, ha with
  | [], .nil, hb, hm, ha =>
    refine (pe_bm0 s1 s2 s3 (sBm (M := M) g.hK (by have := g.room.un; omega) f 0 hb) ho (base_of hy name X.env) hl).wk fun σ H Q q => ?_
    obtain ⟨m, l, h, rh, rl, q⟩ := q
    refine tE_in rh rl (fun _ _ z => z) q fun m1 H1 v w h1 e1 k1 rh1 rl1 rv1 q1 => ?_
    exact ⟨tyN_tyV g.hK rh1 rv1 q1.1 s4, m1, h1, v, [], rh1, rv1, rfl, bmV_mono (LQ.mono e1 k1) q1.2⟩
  | [z], .cons a .nil, hb, hm, ha =>
    have hz := star_of (ba (show (mE M.toMe N sc a z && mEs M.toMe N sc .nil []) = true from hm)).1 X.env []
    refine (pe_bm s1 s2 s3 (sBm (M := M) g.hK (by have := g.room.un; omega) f 1 hb) ho ha (base_of hy name X.env) (by rw [hz] <;> rfl) hl hz rfl).wk fun σ H Q q => ?_
    obtain ⟨m, l, h, rh, rl, q⟩ := q
    refine tE_in rh rl (fun _ _ z => z) q fun m1 H1 v w h1 e1 k1 rh1 rl1 rv1 q1 => ?_
    refine ⟨tyN_tyV g.hK rh1 rv1 q1.1 s4, tA_in rh1 rl1 (LX.mono e1 k1) q1.2 fun m2 H2 u w2 h2 e2 k2 rh2 rl2 rv2 q2 => ?_⟩
    exact ⟨m2, h2, v, u, rh2, rv1.mono k2 e2, rv2, bmV_mono (LQ.mono (e1.trans e2) (k1.trans k2)) q2⟩
  | [], .cons _ _, hb, hm, ha => exact absurd hm Bool.false_ne_true
  | _ :: _, .nil, hb, hm, ha => exact absurd hm Bool.false_ne_true
  | [_], .cons _ (.cons _ _), hb, hm, ha => exact absurd (ba hm).2 Bool.false_ne_true
  | [z1, z2], .cons a .nil, hb, hm, ha => exact absurd (ba hm).2 Bool.false_ne_true
  | [z1, z2], .cons a (.cons b (.cons _ _)), hb, hm, ha => exact absurd (ba (ba hm).2).2 Bool.false_ne_true
  | [z1, z2], .cons a (.cons b .nil), hb, hm, ha =>
    have hz1 := star_of (ba (show (mE M.toMe N sc a z1 && mEs M.toMe N sc (.cons b .nil) [z2]) = true from hm)).1 X.env [z2]
    have hz2 := star_of (ba (show (mE M.toMe N sc b z2 && mEs M.toMe N sc .nil []) = true from (ba (show (mE M.toMe N sc a z1 && mEs M.toMe N sc (.cons b .nil) [z2]) = true from hm)).2)).1 X.env []
    refine (pe_bm s1 s2 s3 (sBm (M := M) g.hK (by have := g.room.un; omega) f 2 hb) ho ha (base_of hy name X.env) (by rw [hz1, hz2] <;> rfl) hl hz1 (by rw [hz2] <;> rfl)).wk fun σ H Q q => ?_
    obtain ⟨m, l, h, rh, rl, q⟩ := q
    refine tE_in rh rl (fun _ _ z => z) q fun m1 H1 v w h1 e1 k1 rh1 rl1 rv1 q1 => ?_
    refine ⟨tyN_tyV g.hK rh1 rv1 q1.1 s4, tA_in rh1 rl1 (LX.mono e1 k1) q1.2 fun m2 H2 u w2 h2 e2 k2 rh2 rl2 rv2 q2 => ?_⟩
    exact ⟨m2, h2, v, u, rh2, rv1.mono k2 e2, rv2, bmV_mono (LQ.mono (e1.trans e2) (k1.trans k2)) q2⟩
  | _ :: _ :: _ :: r, .cons _ es, hb, hm, ha =>
    exfalso
    have : ∀ n, bmB f (n + 3) = false := fun n => by cases f <;> rfl
    rw [show (List.length (_ :: _ :: _ :: r)) = r.length + 3 from rfl, this] at hb
    exact Bool.false_ne_true hb
theorem pts_wk {X : Cx} {e : List Expr} {t t' : TT} (p : PTs X e t) (h : ∀ σ H Q, t' σ H Q → t σ H Q) : PTs X e t' := ⟨fun pins s σ H Q I q => p.run pins s σ H Q I (h _ _ _ q)⟩
theorem fold_of {iter : Expr} (h : notSet iter = true) (env : Env) : ∀ x, foldedSetIterable iter env x = pure x := by
  cases iter <;> first | (intro _; rfl) | exact absurd h Bool.false_ne_true
theorem lcp {X : Cx} {N : List Str} {sc : Sco} {W : WX} (g : Good M X N sc W k) {elt : E} {t : T} {it : I} {cond : OC} {tg iter x' : Expr} {ifs : List Expr} {scope : Scope} {pos : Pos} (ht : tnB t = true) (hb : blkB N sc scope (ownOf N t) = true)
    (hi : PI X tg iter (tI M W fun Y => evI M.G (callS M.G k) Y it) ∧ notSet iter = true) (hg : mT M.toMe false N (relB scope sc) t tg = true)
    (hc : ∀ (X' : Cx) (W' : WX), Good M X' N (relB scope sc) W' k → PTs X' ifs (tT M W' fun Y => evC M.G (callS M.G k) Y cond)) (he : ∀ (X' : Cx) (W' : WX), Good M X' N (relB scope sc) W' k → PE X' x' (tE M W' fun Y => evE M.G (callS M.G k) Y elt)) :
    PE X (.ListComp x' [⟨tg, iter, ifs, 0⟩] scope pos) (tE M W fun Y => evE M.G (callS M.G k) Y (.lc elt t it cond)) := by
  have ok := blk_ok g hb
  have kd : scope.kind = .function := ok.kind
  have p := pe_lc (pos := pos) (te := tE M (fun _ _ _ _ => False) fun Y => evE M.G (callS M.G k) Y elt) g.calm (by rw [g.hN]; exact g.nd) hi.1 ok (fun s H C cl fp => sGn t _ N (relB scope sc) _ (fun _ _ => False) tg (tNs t) (g.blk s H C cl fp kd) ht (fun _ h => h) hg)
    (fun s H C cl fp => hc _ _ (g.blk s H C cl fp kd)) (fun s H C cl fp => he _ _ (g.blk s H C cl fp kd)) (fold_of hi.2 X.env)
  rw [own_ix] at p
  exact p.wk fun σ H Q q => lc_in q
theorem blt_in {x : Str} (h : x = "range" ∨ x = "enumerate" ∨ x = "zip" ∨ x = "reversed") : x ∈ bltNames := by
  rcases h with rfl | rfl | rfl | rfl <;> (unfold bltNames; simp)
/-- a dict -/
theorem dic_ty {m : List Addr} {H : Hp} {h : PH} {v : PV} {x : V} (rh : RH M H m h) (rv : RV M.K H m v x) (e : tyN h v = some "dict") : ∃ p, x = .ref p ∧ ∃ ks, Rd H p (.dK ks) := by
  cases v with
  | ref a =>
    obtain ⟨p, ep, rfl⟩ := rv
    unfold tyN at e
    dsimp only at e
    split at e
    · exact absurd (Option.some.inj e) (by decide)
    · exact absurd (Option.some.inj e) (by decide)
    · rename_i kvs e2
      obtain ⟨ks, e3, _⟩ := rh.obj _ _ _ e2 ep
      exact ⟨p, rfl, ks, .inl e3⟩
    · rename_i kvs e2
      obtain ⟨ks, ⟨o, e3⟩, _⟩ := rh.obj _ _ _ e2 ep
      exact ⟨p, rfl, ks, .inr ⟨o, e3⟩⟩
    · cases e
  | non => exact absurd (Option.some.inj e) (by decide)
  | bl b => exact absurd (Option.some.inj e) (by decide)
  | int b => exact absurd (Option.some.inj e) (by decide)
  | str b => exact absurd (Option.some.inj e) (by decide)
  | tup b => exact absurd (Option.some.inj e) (by decide)
/-- C(..) -/
theorem pe_mkG {X : Cx} {N : List Str} {sc : Sco} {W : WX} (g : Good M X N sc W k) {c : Nat} {cd : CD} (hc : M.G.cls c = some cd) (nbr : cd.bare = false) {p pos : Pos} {es : Es} {xs : List Expr} (hg : glB sc (M.nm c) = true) (hm : mEs M.toMe N sc es xs = true)
    (ha : PA X xs (tA M W fun Y => evEs M.G (callS M.G k) Y es)) : PE X (.Call (.Name (M.nm c) p) xs [] pos) (tE M W fun Y => evE M.G (callS M.G k) Y (.mk c es)) := by
  obtain ⟨g1, g2⟩ := gl_of g hg
  have ok := g.cls c cd hc
  have kp : PySem.W.keepIn X.K (.ref (M.ca c)) = true := by rw [g.hK]; exact (ok.mak nbr).kp
  have mk : Mk X.K (M.ca c) (M.fa cd.init) := by rw [g.hK]; exact ok.mak nbr
  obtain ⟨d, hd⟩ := Option.isSome_iff_exists.mp (ok.ini nbr)
  have run : ∀ {pins : List (Addr × Obj)} {σ : L2.St} {H H1 : Hp} {s : Shared} {Q : VK} {us : List Value} {ws : List V} {vs : List PV} {m m1 : List Addr} {h1 : PH}, L2.Inv X pins σ H1 s → Vals ws us → RH M H1 m1 h1 → RVs M.K H1 m1 vs ws →
      callS M.G k (.mk c) vs h1 (LQ M m1 H1 Q) (LX M W σ m1 H1) → wpAny (model X.prog X.w) X.A (call (.ref (M.ca c)) us) (EP X pins σ Q) X.xe s := by
    intro pins σ H H1 s Q us ws vs m m1 h1 I r rh rv q
    cases hk : k with
    | zero => subst hk; exact (show False from q).elim
    | succ j =>
      subst hk
      obtain ⟨cd', hc', q⟩ := q
      rw [hc] at hc'; cases hc'
      obtain ⟨fd, ps, F, _, D⟩ := (g.fns j (Nat.le_succ j) cd.init d hd).ex
      have F' : FnG X.prog X.w X.K X.mg X.base (L2.CX X.prog X.w) j (M.fa cd.init) fd ps (spF M j cd.init d.np) := by rw [g.hK]; exact F
      have len := rv.len
      have q0 := q
      cases j with
      | zero => exact (show False from q).elim
      | succ i =>
        obtain ⟨d', hd', l1, l2, _⟩ := q0
        rw [hd] at hd'; cases hd'
        obtain ⟨dvs, ds, hv, hb, hr⟩ := D (vs.length + 1) l2 (by have z := fill_len (dfl := d.dfl) (vs := .ref h1.length :: vs) (n := d.np); rw [List.length_cons] at z; exact z.symm.trans l1)
        refine run_makeG (dvs := dvs) (E := WE W σ) mk F' g.gd g.room (by rw [g.hK]; exact hb) hv (passAt g.tk σ) I r fun x dx hx hdx ne => ?_
        have hx2 : upd H1 dx (.own x) x = none := by rw [upd_ne (Ne.symm ne)]; exact hx
        have rh2 : RH M (upd H1 dx (.own x)) m1 h1 := rh.tup hdx
        have rh3 : RH M (upd (upd H1 dx (.own x)) x (.ins (M.ca c) dx [])) (m1 ++ [x]) (h1 ++ [.ins c []]) := rh2.new (o := .ins c []) hx2 ⟨dx, [], cd, upd_same, hc, fun f _ => trivial, rfl, fun s hs => by cases hs⟩ rfl
        have kk : Kp M.K H1 (upd (upd H1 dx (.own x)) x (.ins (M.ca c) dx [])) := (Kp.upd_new hdx).trans (Kp.upd_new hx2)
        have ex := Ex.app m1 x
        have me : (m1 ++ [x])[h1.length]? = some x := by rw [← rh.len]; simp
        refine ⟨m1 ++ [x], h1 ++ [.ins c []], fill d.dfl (.ref h1.length :: vs) d.np, rh3, ?_, l1, ?_⟩
        · refine (show RVs M.K _ _ (.ref h1.length :: (vs ++ d.dfl.drop (d.dfl.length - (d.np - (vs.length + 1))))) _ from ⟨_, _, rfl, ⟨x, me, rfl⟩, (rv.mono kk ex).app (hr _ _)⟩)
        · have e0 : fill d.dfl (fill d.dfl (.ref h1.length :: vs) d.np) d.np = fill d.dfl (.ref h1.length :: vs) d.np := by
            have z : d.np - (fill d.dfl (.ref h1.length :: vs) d.np).length = 0 := by omega
            show fill d.dfl (.ref h1.length :: vs) d.np ++ d.dfl.drop (d.dfl.length - (d.np - (fill d.dfl (.ref h1.length :: vs) d.np).length)) = _
            rw [z]; simp
          have q1 : callS M.G (i + 1) (.fn cd.init) (fill d.dfl (.ref h1.length :: vs) d.np) (h1 ++ [.ins c []]) (fun v h' => v = .non ∧ LQ M m1 H1 Q (.ref h1.length) h') (LX M W σ m1 H1) := by
            obtain ⟨d', hd', a1, a2, q⟩ := q
            rw [hd] at hd'; cases hd'
            exact ⟨d, hd, by rw [e0]; exact l1, Nat.le_of_eq l1, by rw [e0]; exact q⟩
          refine callS_mono (fun v h' q2 m' H' w e' k' r' rv' => ?_) (LX.mono ex kk) q1
          obtain ⟨rfl, q2⟩ := q2
          exact ⟨rv', q2 m' H' (.ref x) (ex.trans e') (kk.trans k') r' ⟨x, e' _ _ me, rfl⟩⟩
  refine ⟨fun pins s σ H Q I h => ?_⟩
  have h' : tA M W (fun Y => evEs M.G (callS M.G k) Y es) σ H fun ws H1 => ∃ m1 h1 vs, RH M H1 m1 h1 ∧ RVs M.K H1 m1 vs ws ∧ callS M.G k (.mk c) vs h1 (LQ M m1 H1 Q) (LX M W σ m1 H1) := by
    obtain ⟨m, l, h, rh, rl, q⟩ := h
    exact tA_in rh rl (fun _ _ z => z) q fun m1 H1 v w h1 e1 k1 rh1 rl1 rv1 q1 => ⟨m1, h1, v, rh1, rv1, callS_mono (LQ.mono e1 k1) (LX.mono e1 k1) q1⟩
  refine wpAny_Call_Name_kw (ld_glob I g1 ok.glob ?_ g2)
  cases xs with
  | nil =>
    have h2 : ∃ m1 h1 vs, RH M H m1 h1 ∧ RVs M.K H m1 vs [] ∧ callS M.G k (.mk c) vs h1 (LQ M m1 H Q) (LX M W σ m1 H) := by
      cases es with
      | nil => obtain ⟨m, l, h, rh, rl, q⟩ := h'; exact q m H [] (Ex.refl m) (Kp.refl _ H) rh rfl
      | cons _ _ => exact absurd hm Bool.false_ne_true
    obtain ⟨m1, h1, vs, rh, rv, q⟩ := h2
    exact PySem.W.callWith_K0 I.kIn kp (run (H := H) (m := m1) I .nil rh rv q)
  | cons y ys =>
    obtain ⟨s1, s2⟩ := star_plain2 X.env pos hm
    refine PySem.W.callWith_K (h₀ := X.base) I.ok.mod.kin kp (thn (ha.run pos pins s σ H _ I h') fun us s1 ⟨ws, H1, I1, r, m1, h1, vs, rh, rv, q⟩ => ⟨I1.kIn, run (H := H) (m := m1) I1 r rh rv q⟩) s1 s2
theorem rvs_ints {K : PySem.W.Frag} {H : Hp} {m : List Addr} : ∀ (l : List Nat), RVs K H m (l.map fun k => PV.int (0 + (k : Nat))) (l.map fun i => V.int (0 + (i : Nat)))
  | [] => rfl
  | x :: r => ⟨_, _, rfl, rfl, rvs_ints r⟩
/-- C() of a class without __init__ -/
theorem run_bare {X : Cx} {pins : List (Addr × Obj)} {σ : L2.St} {H : Hp} {s : Shared} {Q : VK} {Ca : Addr} (B : Bare X.K Ca) (I : L2.Inv X pins σ H s)
    (h : ∀ x dx, H x = none → H dx = none → dx ≠ x → Q (.ref x) (upd (upd H dx (.own x)) x (.ins Ca dx []))) : wpAny (model X.prog X.w) X.A (call (.ref Ca) []) (EP X pins σ Q) X.xe s := by
  have q := h (s.heap.objs.size + 1) s.heap.objs.size (I.hok.fresh (Nat.le_succ _)) (I.hok.fresh (Nat.le_refl _)) (Nat.ne_of_lt (Nat.lt_succ_self _))
  have J := Inv.made (C := Ca) I
  have ho : ((s.heap.push PySem.W.emptyDict).push (PySem.W.instObj Ca s.heap.objs.size)).get? (s.heap.objs.size + 1) = some (PySem.W.instObj Ca s.heap.objs.size) := by
    have z := Heap.get?_push_size (s.heap.push PySem.W.emptyDict) (o := PySem.W.instObj Ca s.heap.objs.size) rfl
    rwa [Heap.size_push] at z
  refine wpAny_call (make_map0 I.kIn B.makes B.init (fun self => PySem.W.Looks.of_pure (PySem.W.oi_bind _)) ?_)
  have t1 : PySem.W.Looks (model X.prog X.w) _ (typeOf (.ref (s.heap.objs.size + 1))) (.ref Ca) := NwA.type_at ho rfl
  have t2 : PySem.W.Looks (model X.prog X.w) _ (isInstance (.ref (s.heap.objs.size + 1)) (.type "object")) true := t1.andThen (PySem.W.looks_mroIn J.kIn B.top)
  refine codeAny_call_builtin PySem.W.oi_plain PySem.W.entry_oi (@PySem.W.check_slot (model X.prog X.w) _ _ _ "object.__init__" "object" "__init__" (.ref (s.heap.objs.size + 1)) [] [] _ PySem.W.oi_kind PySem.W.oi_split t2 (NwA.oi_args_any (.ref (s.heap.objs.size + 1)) [] []) ?_)
  rw [PySem.W.oi_run]
  exact wpAny_pure (And.intro rfl ⟨.ref (s.heap.objs.size + 1), _, J, rfl, q⟩)
theorem pe_mk0G {X : Cx} {N : List Str} {sc : Sco} {W : WX} (g : Good M X N sc W k) {c : Nat} {cd : CD} (hc : M.G.cls c = some cd) (hb : cd.bare = true) {p pos : Pos} (hg : glB sc (M.nm c) = true) :
    PE X (.Call (.Name (M.nm c) p) [] [] pos) (tE M W fun Y => evE M.G (callS M.G k) Y (.mk0 c)) := by
  obtain ⟨g1, g2⟩ := gl_of g hg
  have ok := g.cls c cd hc
  have B : Bare X.K (M.ca c) := by rw [g.hK]; exact ok.bar hb
  refine ⟨fun pins s σ H Q I h => ?_⟩
  refine wpAny_Call_Name_kw (ld_glob I g1 ok.glob ?_ g2)
  refine PySem.W.callWith_K0 I.kIn B.kp (run_bare B I fun x dx hx hdx ne => ?_)
  obtain ⟨m, l, h0, rh, rl, cd', hc', _, q⟩ := h
  have hx2 : upd H dx (.own x) x = none := by rw [upd_ne (Ne.symm ne)]; exact hx
  have rh2 : RH M (upd H dx (.own x)) m h0 := rh.tup hdx
  have rh3 : RH M (upd (upd H dx (.own x)) x (.ins (M.ca c) dx [])) (m ++ [x]) (h0 ++ [.ins c []]) := rh2.new (o := .ins c []) hx2 ⟨dx, [], cd, upd_same, hc, fun f _ => trivial, rfl, fun s hs => by cases hs⟩ rfl
  have kk : Kp M.K H (upd (upd H dx (.own x)) x (.ins (M.ca c) dx [])) := (Kp.upd_new hdx).trans (Kp.upd_new hx2)
  exact q _ _ _ (Ex.app m x) kk rh3 ⟨x, by rw [← rh.len]; simp, rfl⟩
/-- C(.., k = v) -/
theorem pe_mkNG {X : Cx} {N : List Str} {sc : Sco} {W : WX} (g : Good M X N sc W k) {c : Nat} {cd : CD} (hc : M.G.cls c = some cd) {kn : Str} (hk : kwB M.toMe c kn = true) {p pos kp : Pos} {es : Es} {e : E} {y0 z : Expr} {ys : List Expr} (hg : glB sc (M.nm c) = true) (hm : mEs M.toMe N sc es (y0 :: ys) = true)
    (ha : PA X (y0 :: ys) (tA M W fun Y => evEs M.G (callS M.G k) Y es)) (he : PE X z (tE M W fun Y => evE M.G (callS M.G k) Y e)) : PE X (.Call (.Name (M.nm c) p) (y0 :: ys) [⟨some kn, z, kp⟩] pos) (tE M W fun Y => evE M.G (callS M.G k) Y (.mkK c es e)) := by
  obtain ⟨g1, g2⟩ := gl_of g hg
  have ok := g.cls c cd hc
  have nbr : cd.bare = false := by
    unfold kwB at hk
    rw [hc] at hk
    dsimp only at hk
    cases hd : M.toMe.G.fn cd.init with
    | none => rw [hd] at hk; cases hk
    | some d => rw [hd] at hk; simpa using (ba hk).2
  have kpp : PySem.W.keepIn X.K (.ref (M.ca c)) = true := by rw [g.hK]; exact (ok.mak nbr).kp
  have mk : Mk X.K (M.ca c) (M.fa cd.init) := by rw [g.hK]; exact ok.mak nbr
  obtain ⟨d, hd⟩ := Option.isSome_iff_exists.mp (ok.ini nbr)
  have hkw : d.kw.map M.nm = some kn := by
    unfold kwB at hk
    rw [hc] at hk
    dsimp only at hk
    rw [hd] at hk
    exact of_decide_eq_true (ba hk).1
  obtain ⟨kx, ekx, ekn⟩ := Option.map_eq_some_iff.mp hkw
  obtain ⟨s1, s2⟩ := star_plain2 X.env pos hm
  have hmg : X.mg (M.nm c) = some (.ref (M.ca c)) := ok.glob
  refine ⟨fun pins s σ H Q I h => ?_⟩
  obtain ⟨m, l, h0, rh, rl, q⟩ := h
  refine wpAny_Call_Name_kw (ld_glob I g1 hmg ?_ g2)
  refine PySem.W.callWith_KW (h₀ := X.base) I.ok.mod.kin kpp (by rfl) (thn (ha.run pos pins s σ H (fun vs H1 => (tCons (tE M W fun Y => evE M.G (callS M.G k) Y e) tNil) σ H1 fun zs H2 => ∃ m2 h2 pvs pz zv, Ex m m2 ∧ Kp M.K H H2 ∧ RH M H2 m2 h2 ∧ RL M.K H2 m2 l σ ∧ RVs M.K H2 m2 pvs vs ∧ zs = [zv] ∧ RV M.K H2 m2 pz zv ∧
      ∃ cd d, M.G.cls c = some cd ∧ M.G.fn cd.init = some d ∧ d.kw.isSome = true ∧ pvs.length + 2 ≤ d.np ∧ d.np - 2 - pvs.length ≤ d.dfl.length - 1 ∧
        callS M.G k (.mk c) (pvs ++ d.dfl.dropLast.drop (d.dfl.length - 1 - (d.np - 2 - pvs.length)) ++ [pz]) h2 (LQ M m H Q) (LX M W σ m H)) I (tA_in rh rl (fun _ _ z => z) q fun m1 H1 v w h1 e1 k1 rh1 rl1 rv1 q1 => ?_)) fun us s1 ⟨vs, H1, I1, r, q⟩ => ?_) (by rw [show (backTo pos (starEach (y0 :: ys) X.env)).any (·.1) = false by rw [s1]; exact s2]; rfl) s1
  · exact tE_in rh1 rl1 (LX.mono e1 k1) q1 fun m2 H2 u w2 h2 e2 k2 rh2 rl2 rv2 q2 => ⟨m2, h2, v, u, w2, e1.trans e2, k1.trans k2, rh2, rl2, rv1.mono k2 e2, rfl, rv2, q2⟩
  · refine thn ((pk_cons he pk_nil).run pos pins s1 σ H1 _ I1 q) fun ws s2 ⟨zs, H2, I2, rz, m2, h2, pvs, pz, zv, e2, k2, rh2, rl2, rvs, ezs, rz2, cd', d', hc', hd', _, n1, n2, q2⟩ => ⟨I2.kIn, ?_⟩
    subst ezs
    rw [hc] at hc'; cases hc'
    rw [hd] at hd'; cases hd'
    show wpAny _ _ (call (.ref (M.ca c)) us ([kn].zip ws)) _ _ _
    have vl := rvs.len
    cases hk2 : k with
    | zero => subst hk2; exact (show False from q2).elim
    | succ j =>
      subst hk2
      obtain ⟨cd', hc', q2⟩ := q2
      rw [hc] at hc'; cases hc'
      obtain ⟨fd, ps, F, ⟨_, KW⟩, D⟩ := (g.fns j (Nat.le_succ j) cd.init d hd).ex
      have F' : FnG X.prog X.w X.K X.mg X.base (L2.CX X.prog X.w) j (M.fa cd.init) fd ps (spF M j cd.init d.np) := by rw [g.hK]; exact F
      obtain ⟨gg, gV, mid, kb, gv, rmid⟩ := KW kx ekx (vs.length + 1) (by omega) (by omega)
      rw [ekn] at kb
      refine run_makeNG (E := WE W σ) (n := vs.length) (ks := [kn]) mk F' g.gd g.room (by rw [g.hK]; exact kb) (passAt g.tk σ) I2 r rz rfl rfl fun x dx hx hdx ne => ?_
      have hx2 : upd H2 dx (.own x) x = none := by rw [upd_ne (Ne.symm ne)]; exact hx
      have rh3 : RH M (upd H2 dx (.own x)) m2 h2 := rh2.tup hdx
      have rh4 : RH M (upd (upd H2 dx (.own x)) x (.ins (M.ca c) dx [])) (m2 ++ [x]) (h2 ++ [.ins c []]) := rh3.new (o := .ins c []) hx2 ⟨dx, [], cd, upd_same, hc, fun f _ => trivial, rfl, fun s hs => by cases hs⟩ rfl
      have kk : Kp M.K H2 (upd (upd H2 dx (.own x)) x (.ins (M.ca c) dx [])) := (Kp.upd_new hdx).trans (Kp.upd_new hx2)
      have ex := Ex.app m2 x
      have me : (m2 ++ [x])[h2.length]? = some x := by rw [← rh2.len]; simp
      rw [gv (.ref x :: vs) zv rfl]
      have rm := rmid (upd (upd H2 dx (.own x)) x (.ins (M.ca c) dx [])) (m2 ++ [x])
      rw [show d.np - 1 - (vs.length + 1) = d.np - 2 - pvs.length by omega] at rm
      refine ⟨m2 ++ [x], h2 ++ [.ins c []], .ref h2.length :: (pvs ++ d.dfl.dropLast.drop (d.dfl.length - 1 - (d.np - 2 - pvs.length)) ++ [pz]), rh4, ?_, ?_, ?_⟩
      · exact (show RVs M.K _ _ (.ref h2.length :: (pvs ++ d.dfl.dropLast.drop (d.dfl.length - 1 - (d.np - 2 - pvs.length)) ++ [pz])) (V.ref x :: (vs ++ mid ++ [zv])) from ⟨_, _, rfl, ⟨x, me, rfl⟩, ((rvs.mono kk ex).app rm).app (RVs.one (rz2.mono kk ex _ _))⟩)
      · simp only [List.length_cons, List.length_append, List.length_drop, List.length_dropLast, List.length_nil]; omega
      · refine callS_mono (fun v h' q3 m' H' w e' k' r' rv' => ?_) (fun v h' q3 => LX.mono (e2.trans ex) (k2.trans kk) v h' q3) q2
        obtain ⟨rfl, q3⟩ := q3
        exact ⟨rv', q3 m' H' (.ref x) ((e2.trans ex).trans e') ((k2.trans kk).trans k') r' ⟨x, e' _ _ me, rfl⟩⟩
/-- the values of a written dict -/
def LKs (M : Mo) (m : List Addr) (H : Hp) (ks : List Str) (R : List (V × V) → Hp → Prop) : List PV → PH → Prop := fun xs h' => ∀ (m' : List Addr) (H' : Hp) (ws : List V), Ex m m' → Kp M.K H H' → RH M H' m' h' → RVs M.K H' m' xs ws → R ((ks.map V.str).zip ws) H'
theorem zip_kv : ∀ (ks : List Str) (zs : List V), (ks.map V.str).zip zs = ((ks.zip zs).map fun kv => ((Sum.inr kv.1 : Key), kv.2)).map fun kv => (kV kv.1, kv.2)
  | [], _ => rfl
  | _ :: _, [] => rfl
  | k :: ks, z :: zs => by
    show (V.str k, z) :: (ks.map V.str).zip zs = (V.str k, z) :: _
    rw [zip_kv ks zs]; rfl
theorem merge_of {K : PySem.W.Frag} {H : Hp} {m : List Addr} : ∀ (ks : List Str) (ws : List PV) (zs : List V) (a : List (PV × PV)) (b : List (Key × V)), RKs K H m a b → RVs K H m ws zs → RKs K H m (mergeD a ks ws) (mergeK b ((ks.zip zs).map fun kv => (.inr kv.1, kv.2)))
  | [], ws, zs, a, b, r, _ => by cases ws <;> exact r
  | k :: ks, [], zs, a, b, r, h => by cases (show zs = [] from h); exact r
  | k :: ks, w :: ws, zs, a, b, r, h => by
    obtain ⟨v, s, rfl, h1, h2⟩ := h
    exact merge_of ks ws s _ _ (put_of (k := .str k) (q := .inr k) rfl h1 r) h2
theorem mergeU_of {K : PySem.W.Frag} {H : Hp} {m : List Addr} : ∀ (more : List (PV × PV)) (ms : List (Key × V)) (a : List (PV × PV)) (b : List (Key × V)), RKs K H m a b → RKs K H m more ms → RKs K H m (mergeU a more) (mergeK b ms)
  | [], ms, a, b, r, h => by cases (show ms = [] from h); exact r
  | (x, y) :: more, ms, a, b, r, h => by
    obtain ⟨k, v, s, rfl, h1, h2, h3⟩ := h
    exact mergeU_of more s _ _ (put_of h1 h2 r) h3
def tDUp (td ty : TE) : TE := fun σ H Q => td σ H fun x H1 => ∃ a, x = .ref a ∧ IsD H1 a ∧ ty σ H1 fun y H2 => ∃ b kvs more, y = .ref b ∧ a ≠ b ∧ H2 a = some (.dK kvs) ∧ H2 b = some (.dK more) ∧ kvs.length + more.length ≤ sizeLine ∧ Q .non (upd H2 a (.dK (mergeK kvs more)))
theorem d_update {X : Cx} {pins : List (Addr × Obj)} {σ : L2.St} {H : Hp} {s : Shared} {a b : Addr} {kvs more : List (Key × V)} {A : Around} {E : Value → Shared → Prop} {Q : Value → Shared → Prop} (I : Inv X pins σ H s) (e : H a = some (.dK kvs)) (e2 : H b = some (.dK more)) (hab : a ≠ b) (hz : kvs.length + more.length ≤ sizeLine) (h : ∀ s', Inv X pins σ (upd H a (.dK (mergeK kvs more))) s' → Q .none s') : wpAny (model X.prog X.w) A (call (.builtin "dict.update") [.ref a, .ref b]) Q E s := by
  obtain ⟨z, hd, vs, rel, dd⟩ := dk_of I.hok e
  obtain ⟨z2, hd2, ws, rel2, dd2⟩ := dk_of I.hok e2
  refine call_meetsIn PySem.F.slot_dict_update dd.typeIs PySem.F.entry_dict_update (PySem.F.args_dict_update_2 _ _) (meets_dict_update (mixKind X.prog X.w) a b hab hd2) ⟨vs, ws, dd, dd2, by rw [← rel.length, ← rel2.length]; exact hz, fun h' dd' _ hs => h _ ?_⟩
  have he : ∃ q, h'.get? a = some q := let ⟨q, _, _, hq, _⟩ := dd'; ⟨q, hq⟩
  exact d_write (t' := s.toks) I (by rw [e]; exact True.intro) hs he (dk_new (Nat.le_trans (length_mergeK more kvs) hz) hd (KV.merge rel2 rel) dd')
theorem pe_dup {X : Cx} {o e : Expr} {apos cpos : Pos} {td ty : TE} (ho : PE X o td) (he : PE X e ty) (m : M1 X o "update" apos e cpos) : PE X (.Call (.Attribute o "update" apos) [e] [] cpos) (tDUp td ty) := by
  refine ⟨fun pins s σ H Q I h => ?_⟩
  refine wpAny_Call_method m.base m.few m.line PySem.F.plainAttrs_dict PySem.F.slot_dict_update PySem.F.type_dict_update (thn (ho.run pins s σ H _ I h) fun u s1 ⟨x, H1, I1, rx, a, ex, d, q1⟩ => ?_)
  subst ex
  obtain rfl : u = Value.ref a := rx
  obtain ⟨t1, t2, _⟩ := isD_at I1 d
  refine ⟨t1, t2, ?_⟩
  rw [m.trees]
  refine Calls.callWith_builtin rfl (Calls.evalArgs_plain (Calls.spliced_cons (thn (he.run pins s1 σ H1 _ I1 q1) fun iv s2 ⟨y, H2, I2, ry, b, kvs, more, ey, hab, e1, e2, hz, q2⟩ => Calls.spliced_nil ?_)))
  subst ey
  obtain rfl : iv = Value.ref b := ry
  exact d_update I2 e1 e2 hab hz fun s3 I3 => ⟨.non, _, I3, rfl, q2⟩
theorem meth_eval {o : Expr} {name : Str} {apos pos : Pos} {args : List Expr} {env : Env} (hb : attributeBase o name env (eval o env) = eval o env) (hs : (backTo pos (starEach args env)).any (·.1) = false) (hn : args.length < 30) (hl : (apos.endLine == pos.line) = true) :
    eval (.Call (.Attribute o name apos) args [] pos) env = (do
      let ov ← eval o env
      standAt apos.atName
      let (f, first) ← holding [ov] (getMethod ov name (do return (← importBound o env).getD true))
      callWith pos f first (backTo pos (starEach args env)) (backToKw pos (keywordEach [] env))) := by
  refine mcall_of hb fun ov => ?_
  have few : methodCallForm (args.length + ([] : List Keyword).length) (backTo pos (starEach args env)) (backToKw pos (keywordEach [] env)) = true := by
    unfold methodCallForm
    have e1 : (backTo pos (starEach args env)).all (fun x => !x.1) = true := by
      rw [List.all_eq_not_any_not]
      simp only [Bool.not_not]
      rw [hs]; rfl
    rw [e1, Bool.true_and]
    show (true && decide (args.length + 0 + 0 < 30)) = true
    rw [Bool.true_and]; exact decide_eq_true (by omega)
  unfold methodCall
  rw [few]
  unfold calleeOf methodCallPos
  simp only [if_true, hl, Bool.or_true, pure_bind]
theorem lookup_no {gs : List (Str × V)} {k : Str} : (∀ s ∈ gs.map (·.1), s ≠ k) → gs.lookup k = none := by
  induction gs with
  | nil => intro _; rfl
  | cons p r ih =>
    intro h
    obtain ⟨a, b⟩ := p
    have h1 : a ≠ k := h a (List.mem_cons_self ..)
    have h2 : (k == a) = false := beq_eq_false_iff_ne.mpr (Ne.symm h1)
    show (match k == a with | true => some b | false => r.lookup k) = none
    rw [h2]
    exact ih fun s hs => h s (List.mem_cons_of_mem _ hs)
/-- o.m(..) -/
theorem pe_methG {X : Cx} {N : List Str} {sc : Sco} {W : WX} (g : Good M X N sc W k) {o : E} {mm : Nat} {y : Expr} {p q : Pos} {es : Es} {xs : List Expr} (hl : (p.endLine == q.line) = true) (hn : xs.length < 30) (hy : baseB y = true)
    (ho : PE X y (tE M W fun Y => evE M.G (callS M.G k) Y o)) (hm : mEs M.toMe N sc es xs = true) (ha : PA X xs (tA M W fun Y => evEs M.G (callS M.G k) Y es)) :
    PE X (.Call (.Attribute y (M.nm mm) p) xs [] q) (tE M W fun Y => evE M.G (callS M.G k) Y (.meth o mm es)) := by
  have hst : (backTo q (starEach xs X.env)).any (·.1) = false := star_plain X.env q hm
  refine ⟨fun pins s σ H Q I h => ?_⟩
  refine methcall_of ho I ?_ (meth_eval (base_of hy _ _) hst hn hl)
  obtain ⟨m, l, h, rh, rl, q0⟩ := h
  refine tE_in rh rl (fun _ _ z => z) q0 fun m1 H1 v w h1 e1 k1 rh1 rl1 rv1 q1 => ?_
  obtain ⟨a, c, fs, cd, f, rfl, ep, hc, hf, q1⟩ := q1
  obtain ⟨pa, e2, rfl⟩ := rv1
  obtain ⟨dx, gs, cd', a1, a2, a3, a4, a5⟩ := rh1.obj _ _ _ ep e2
  rw [hc] at a2; cases a2
  have ok := g.cls c cd hc
  obtain ⟨mt, nf, fd0⟩ := ok.meth mm f hf
  obtain ⟨d, hd⟩ := Option.isSome_iff_exists.mp fd0
  obtain ⟨fd, ps, F, ⟨kp, _⟩, D⟩ := (g.fns k (Nat.le_refl k) f d hd).ex
  have F' : FnG X.prog X.w X.K X.mg X.base (L2.CX X.prog X.w) k (M.fa f) fd ps (spF M k f d.np) := by rw [g.hK]; exact F
  have kp' : PySem.W.keepIn X.K (.ref (M.fa f)) = true := by rw [g.hK]; exact kp
  refine ⟨pa, M.ca c, dx, gs, M.fa f, rfl, a1, by rw [g.hK]; exact ok.cls, by rw [g.hK]; exact mt, lookup_no fun s hs e => nf (e ▸ a5 s hs), fun s1 I1 => ?_⟩
  have run : ∀ {H2 : Hp} {s2 : Shared} {us : List Value} {ws : List V} {vs : List PV} {m2 : List Addr} {h2 : PH}, L2.Inv X pins σ H2 s2 → Vals ws us → RH M H2 m2 h2 → RVs M.K H2 m2 (.ref a :: vs) (.ref pa :: ws) →
      callS M.G k (.fn f) (.ref a :: vs) h2 (LQ M m2 H2 Q) (LX M W σ m2 H2) → wpAny (model X.prog X.w) X.A (call (.ref (M.fa f)) (.ref pa :: us)) (EP X pins σ Q) X.xe s2 := by
    intro H2 s2 us ws vs m2 h2 I2 r rh2 rv2 q2
    obtain ⟨l1, l2, go⟩ := call_sp (E := WE W σ) hd rh2 rv2 q2
    obtain ⟨dvs, ds, hv, hb, hr⟩ := D _ l1 l2
    exact run_fnG F' g.gd g.room (by rw [g.hK]; exact hb) hv (passAt g.tk σ) I2 (.cons (show L2.RelV (V.ref pa) (Value.ref pa) from rfl) r) (go dvs hr)
  cases xs with
  | nil =>
    cases es with
    | cons _ _ => exact absurd hm Bool.false_ne_true
    | nil =>
      have q2 : callS M.G k (.fn f) [.ref a] h1 (LQ M m H Q) (LX M W σ m H) := q1
      exact PySem.W.callWith_K0 (first := [.ref pa]) I1.kIn kp' (run (us := []) (ws := []) (vs := []) I1 .nil rh1 ⟨_, _, rfl, ⟨pa, e2, rfl⟩, rfl⟩ (callS_mono (LQ.mono e1 k1) (LX.mono e1 k1) q2))
  | cons z zs =>
    obtain ⟨s2, s3⟩ := star_plain2 X.env q hm
    have q2 := tA_in (W := W) (σ := σ) (Q' := fun ws H2 => ∃ m2 h2 vs, RH M H2 m2 h2 ∧ RVs M.K H2 m2 (.ref a :: vs) (.ref pa :: ws) ∧ callS M.G k (.fn f) (.ref a :: vs) h2 (LQ M m2 H2 Q) (LX M W σ m2 H2)) rh1 rl1 (LX.mono e1 k1) q1
      fun m2 H2 u w2 h2 e2' k2 rh2 rl2 rv2 q2 => ⟨m2, h2, u, rh2, ⟨_, _, rfl, ⟨pa, e2' _ _ e2, rfl⟩, rv2⟩, callS_mono (LQ.mono (e1.trans e2') (k1.trans k2)) (LX.mono (e1.trans e2') (k1.trans k2)) q2⟩
    exact PySem.W.callWith_K (first := [.ref pa]) (h₀ := X.base) I1.ok.mod.kin kp' (thn (ha.run q pins s1 σ H1 _ I1 q2) fun us s2 ⟨ws, H2, I2, r, m2, h2, vs, rh2, rv2, q3⟩ => ⟨I2.kIn, run I2 r rh2 rv2 q3⟩) s2 s3
/-- C.__init__(..) -/
theorem pe_iniG {X : Cx} {N : List Str} {sc : Sco} {W : WX} (g : Good M X N sc W k) {c : Nat} {cd : CD} (hc : M.G.cls c = some cd) (hb : cd.base = true) (nbr : cd.bare = false) {p0 p q : Pos} {es : Es} {x0 : Expr} {xs : List Expr} (hg : glB sc (M.nm c) = true) (hl : (p.endLine == q.line) = true) (hn : (x0 :: xs).length < 30)
    (hm : mEs M.toMe N sc es (x0 :: xs) = true) (ha : PA X (x0 :: xs) (tA M W fun Y => evEs M.G (callS M.G k) Y es)) :
    PE X (.Call (.Attribute (.Name (M.nm c) p0) "__init__" p) (x0 :: xs) [] q) (tE M W fun Y => evE M.G (callS M.G k) Y (.ini c es)) := by
  obtain ⟨g1, g2⟩ := gl_of g hg
  have ok := g.cls c cd hc
  obtain ⟨rd, ga, at_⟩ := ok.inid hb
  obtain ⟨d, hd⟩ := Option.isSome_iff_exists.mp (ok.ini nbr)
  obtain ⟨fd, ps, F, ⟨kp, _⟩, D⟩ := (g.fns k (Nat.le_refl k) cd.init d hd).ex
  have F' : FnG X.prog X.w X.K X.mg X.base (L2.CX X.prog X.w) k (M.fa cd.init) fd ps (spF M k cd.init d.np) := by rw [g.hK]; exact F
  have kp' : PySem.W.keepIn X.K (.ref (M.fa cd.init)) = true := by rw [g.hK]; exact kp
  obtain ⟨s1, s2⟩ := star_plain2 X.env q hm
  refine ⟨fun pins s σ H Q I h => ?_⟩
  have h' : tA M W (fun Y => evEs M.G (callS M.G k) Y es) σ H fun ws H1 => ∃ m1 h1 vs, RH M H1 m1 h1 ∧ RVs M.K H1 m1 vs ws ∧ callS M.G k (.fn cd.init) vs h1 (LQ M m1 H1 Q) (LX M W σ m1 H1) := by
    obtain ⟨m, l, h, rh, rl, cd', hc', q⟩ := h
    rw [hc] at hc'; cases hc'
    exact tA_in rh rl (fun _ _ z => z) q fun m1 H1 v w h1 e1 k1 rh1 rl1 rv1 q1 => ⟨m1, h1, v, rh1, rv1, callS_mono (LQ.mono e1 k1) (LX.mono e1 k1) q1⟩
  refine PySem.W.methodCall_KW (ld_glob I g1 ok.glob ?_ g2) (meth_eval rfl (star_plain X.env q hm) hn hl)
  refine PySem.W.method_cls I.kIn (by rw [g.hK]; exact ga) ?_
  refine PySem.W.cls_value I.kIn (by rw [g.hK]; exact rd) (by rw [g.hK]; exact at_) rfl ?_
  have I1 := I.tok (s.toks + 1)
  refine PySem.W.callWith_K (first := []) (h₀ := X.base) I1.ok.mod.kin kp' (thn (ha.run q pins _ σ H _ I1 h') fun us s2 ⟨ws, H2, I2, r, m2, h2, vs, rh2, rv2, q3⟩ => ⟨I2.kIn, ?_⟩) s1 s2
  obtain ⟨l1, l2, go⟩ := call_sp (E := WE W σ) hd rh2 rv2 q3
  obtain ⟨dvs, ds, hv, hb2, hr⟩ := D _ l1 l2
  exact run_fnG F' g.gd g.room (by rw [g.hK]; exact hb2) hv (passAt g.tk σ) I2 r (go dvs hr)
mutual
theorem sE : ∀ (e : E) (X : Cx) (N : List Str) (sc : Sco) (W : WX) (x : Expr), Good M X N sc W k → mE M.toMe N sc e x = true → PE X x (tE M W fun Y => evE M.G (callS M.G k) Y e)
  | .var i, X, N, sc, W, x, g, hm => by
    cases x <;> first | exact absurd hm Bool.false_ne_true | skip
    rename_i id pos
    obtain ⟨h123, h4⟩ := ba hm
    obtain ⟨h12, h3⟩ := ba h123
    obtain ⟨h1, h2⟩ := ba h12
    refine (pe_var (i := i) (by rw [g.hN]; exact of_decide_eq_true h1) (vis_of g h2) (nb h3) (nb h4)).wk fun σ H Q q => ?_
    obtain ⟨m, l, h, rh, rl, v, e, q⟩ := q
    obtain ⟨w, e2, rv⟩ := rl.2 i v e
    exact ⟨w, e2, q.at rh rv⟩
  | .int i, X, N, sc, W, x, g, hm => by
    cases x <;> first | exact absurd hm Bool.false_ne_true | skip
    rename_i c j pos
    cases c <;> first | exact absurd hm Bool.false_ne_true | skip
    have e := of_decide_eq_true hm
    subst e
    exact pe_int.wk fun σ H Q ⟨m, l, h, rh, rl, q⟩ => LQ.at q rh rfl
  | .str i, X, N, sc, W, x, g, hm => by
    cases x <;> first | exact absurd hm Bool.false_ne_true | skip
    rename_i c j pos
    cases c <;> first | exact absurd hm Bool.false_ne_true | skip
    have e := of_decide_eq_true hm
    subst e
    exact pe_str.wk fun σ H Q ⟨m, l, h, rh, rl, q⟩ => LQ.at q rh rfl
  | .bl i, X, N, sc, W, x, g, hm => by
    cases x <;> first | exact absurd hm Bool.false_ne_true | skip
    rename_i c j pos
    cases c <;> first | exact absurd hm Bool.false_ne_true | skip
    have e := of_decide_eq_true hm
    subst e
    exact pe_bl.wk fun σ H Q ⟨m, l, h, rh, rl, q⟩ => LQ.at q rh rfl
  | .non, X, N, sc, W, x, g, hm => by
    cases x <;> first | exact absurd hm Bool.false_ne_true | skip
    rename_i c j pos
    cases c <;> first | exact absurd hm Bool.false_ne_true | skip
    exact pe_non.wk fun σ H Q ⟨m, l, h, rh, rl, q⟩ => LQ.at q rh rfl
  | .glob i, X, N, sc, W, x, g, hm => by
    cases x <;> first | exact absurd hm Bool.false_ne_true | skip
    rename_i id pos
    obtain ⟨h1, h2⟩ := ba hm
    have e := of_decide_eq_true h1
    subst e
    obtain ⟨g1, g2⟩ := gl_of g h2
    cases hc : M.G.con i with
    | none =>
      refine ⟨fun pins s σ H Q I q => ?_⟩
      obtain ⟨m, l, h, rh, rl, v, e, q⟩ := q
      rw [hc] at e; cases e
    | some v =>
      obtain ⟨u, w, hmg, ru, rv⟩ := g.glo.con i v hc
      refine (pe_glob g1 hmg ru g2).wk fun σ H Q q => ?_
      obtain ⟨m, l, h, rh, rl, v', e, q⟩ := q
      rw [hc] at e; cases e
      exact q.at rh (rv H m)
  | .bin o a b, X, N, sc, W, x, g, hm => by
    cases x <;> first | exact absurd hm Bool.false_ne_true | skip
    obtain ⟨h12, h3⟩ := ba hm
    obtain ⟨h1, h2⟩ := ba h12
    have e := of_decide_eq_true h1
    subst e
    refine (pe_op (sB g.hK o) (sE a X N sc W _ g h2) (sE b X N sc W _ g h3)).wk fun σ H Q q => ?_
    obtain ⟨m, l, h, rh, rl, q⟩ := q
    refine tE_in rh rl (fun _ _ z => z) q fun m1 H1 v w h1 e1 k1 rh1 rl1 rv1 q1 => ?_
    refine tE_in rh1 rl1 (LX.mono e1 k1) q1 fun m2 H2 u w2 h2 e2 k2 rh2 rl2 rv2 q2 => ?_
    exact ⟨m2, h2, v, u, rh2, rv1.mono k2 e2, rv2, binV_mono (LQ.mono (e1.trans e2) (k1.trans k2)) q2⟩
  | .neg a, X, N, sc, W, x, g, hm => by
    cases x <;> first | exact absurd hm Bool.false_ne_true | skip
    rename_i op y pos
    cases op <;> first | exact absurd hm Bool.false_ne_true | skip
    refine (pe_un un_neg (sE a X N sc W _ g hm)).wk fun σ H Q q => ?_
    obtain ⟨m, l, h, rh, rl, q⟩ := q
    refine tE_in rh rl (fun _ _ z => z) q fun m1 H1 v w h1 e1 k1 rh1 rl1 rv1 q1 => ?_
    obtain ⟨i, rfl, q1⟩ := q1
    exact ⟨i, rv1, (LQ.mono e1 k1 _ _ q1).at rh1 rfl⟩
  | .nt a, X, N, sc, W, x, g, hm => by
    cases x <;> first | exact absurd hm Bool.false_ne_true | skip
    rename_i op y pos
    cases op <;> first | exact absurd hm Bool.false_ne_true | skip
    refine (pe_not (sE a X N sc W _ g hm)).wk fun σ H Q q => ?_
    obtain ⟨m, l, h, rh, rl, q⟩ := q
    refine tE_in rh rl (fun _ _ z => z) q fun m1 H1 v w h1 e1 k1 rh1 rl1 rv1 q1 => ?_
    obtain ⟨i, rfl, q1⟩ := q1
    exact ⟨i, rv1, (LQ.mono e1 k1 _ _ q1).at rh1 rfl⟩
  | .and a b, X, N, sc, W, x, g, hm => by
    cases x <;> first | exact absurd hm Bool.false_ne_true | skip
    rename_i op xs pos
    cases op <;> first | exact absurd hm Bool.false_ne_true | skip
    match xs, hm with
    | [], hm => exact absurd hm Bool.false_ne_true
    | [_], hm => exact absurd hm Bool.false_ne_true
    | y :: z :: r, hm =>
      obtain ⟨h1, h2⟩ := ba hm
      have hb : PE X (.BoolOp .And (z :: r) pos) (tE M W fun Y => evE M.G (callS M.G k) Y b) := by
        cases r with
        | nil => exact pe_one (sE b X N sc W _ g h2)
        | cons z' r' => exact sE b X N sc W _ g h2
      refine (pe_and (sE a X N sc W _ g h1) hb).wk fun σ H Q q => ?_
      obtain ⟨m, l, h, rh, rl, q⟩ := q
      refine tE_in rh rl (fun _ _ z => z) q fun m1 H1 v w h1 e1 k1 rh1 rl1 rv1 q1 => ?_
      obtain ⟨i, rfl, q1⟩ := q1
      refine ⟨i, rv1, ?_⟩
      cases i with
      | true => exact tE_in rh1 rl1 (LX.mono e1 k1) q1 fun m2 H2 u w2 h2 e2 k2 rh2 rl2 rv2 q2 => (LQ.mono (e1.trans e2) (k1.trans k2) _ _ q2).at rh2 rv2
      | false => exact (LQ.mono e1 k1 _ _ q1).at rh1 rfl
  | .or a b, X, N, sc, W, x, g, hm => by
    cases x <;> first | exact absurd hm Bool.false_ne_true | skip
    rename_i op xs pos
    cases op <;> first | exact absurd hm Bool.false_ne_true | skip
    match xs, hm with
    | [], hm => exact absurd hm Bool.false_ne_true
    | [_], hm => exact absurd hm Bool.false_ne_true
    | y :: z :: r, hm =>
      obtain ⟨h1, h2⟩ := ba hm
      have hb : PE X (.BoolOp .Or (z :: r) pos) (tE M W fun Y => evE M.G (callS M.G k) Y b) := by
        cases r with
        | nil => exact pe_one (sE b X N sc W _ g h2)
        | cons z' r' => exact sE b X N sc W _ g h2
      refine (pe_or (sE a X N sc W _ g h1) hb).wk fun σ H Q q => ?_
      obtain ⟨m, l, h, rh, rl, q⟩ := q
      refine tE_in rh rl (fun _ _ z => z) q fun m1 H1 v w h1 e1 k1 rh1 rl1 rv1 q1 => ?_
      obtain ⟨i, rfl, q1⟩ := q1
      refine ⟨i, rv1, ?_⟩
      cases i with
      | false => exact tE_in rh1 rl1 (LX.mono e1 k1) q1 fun m2 H2 u w2 h2 e2 k2 rh2 rl2 rv2 q2 => (LQ.mono (e1.trans e2) (k1.trans k2) _ _ q2).at rh2 rv2
      | true => exact (LQ.mono e1 k1 _ _ q1).at rh1 rfl
  | .cmp o a b, X, N, sc, W, x, g, hm => by
    cases x <;> first | exact absurd hm Bool.false_ne_true | skip
    rename_i y ops zs pos
    match ops, zs, hm with
    | [], _, hm => exact absurd hm Bool.false_ne_true
    | [_], [], hm => exact absurd hm Bool.false_ne_true
    | [_], _ :: _ :: _, hm => exact absurd hm Bool.false_ne_true
    | _ :: _ :: _, _, hm => exact absurd hm Bool.false_ne_true
    | [p], [z], hm =>
      obtain ⟨h123, h4⟩ := ba hm
      obtain ⟨h12, h3⟩ := ba h123
      obtain ⟨h1, h2⟩ := ba h12
      have e := of_decide_eq_true h1
      subst e
      refine (pe_cmpR (sC g.hK (by have := g.room.un; omega) o) (sE a X N sc W _ g h3) (sE b X N sc W _ g h4) (nb h2)).wk fun σ H Q q => ?_
      obtain ⟨m, l, h, rh, rl, q⟩ := q
      refine tE_in rh rl (fun _ _ z => z) q fun m1 H1 v w h1 e1 k1 rh1 rl1 rv1 q1 => ?_
      refine tE_in rh1 rl1 (LX.mono e1 k1) q1 fun m2 H2 u w2 h2 e2 k2 rh2 rl2 rv2 q2 => ?_
      refine ⟨m2, h2, v, u, rh2, rv1.mono k2 e2, rv2, cmpV_mono (fun r h3 q3 m3 H3 e3 k3 rh3 => ?_) q2⟩
      exact q3 m3 H3 _ ((e1.trans e2).trans e3) ((k1.trans k2).trans k3) rh3 rfl
  | .chain o o' a b c, X, N, sc, W, x, g, hm => by
    cases x <;> first | exact absurd hm Bool.false_ne_true | skip
    rename_i y ops zs pos
    match ops, zs, hm with
    | [], _, hm => exact absurd hm Bool.false_ne_true
    | [_], _, hm => exact absurd hm Bool.false_ne_true
    | _ :: _ :: _ :: _, _, hm => exact absurd hm Bool.false_ne_true
    | [_, _], [], hm => exact absurd hm Bool.false_ne_true
    | [_, _], [_], hm => exact absurd hm Bool.false_ne_true
    | [_, _], _ :: _ :: _ :: _, hm => exact absurd hm Bool.false_ne_true
    | [p, p'], [z, z'], hm =>
      obtain ⟨h12345, h6⟩ := ba hm
      obtain ⟨h1234, h5⟩ := ba h12345
      obtain ⟨h123, h4⟩ := ba h1234
      obtain ⟨h12, h3⟩ := ba h123
      obtain ⟨h1, h2⟩ := ba h12
      have e := of_decide_eq_true h1
      have e' := of_decide_eq_true h2
      subst e; subst e'
      refine (pe_chain (sC g.hK (by have := g.room.un; omega) o) (sC g.hK (by have := g.room.un; omega) o') (sE a X N sc W _ g h4) (sE b X N sc W _ g h5) (sE c X N sc W _ g h6) (nb h3)).wk fun σ H Q q => ?_
      obtain ⟨m, l, h, rh, rl, q⟩ := q
      refine tE_in rh rl (fun _ _ z => z) q fun m1 H1 v w h1 e1 k1 rh1 rl1 rv1 q1 => ?_
      refine tE_in rh1 rl1 (LX.mono e1 k1) q1 fun m2 H2 u w2 h2 e2 k2 rh2 rl2 rv2 q2 => ?_
      refine ⟨m2, h2, v, u, rh2, rv1.mono k2 e2, rv2, cmpV_mono (fun r h3 q3 m3 H3 e3 k3 rh3 => ?_) q2⟩
      refine ⟨r, rfl, ?_⟩
      have e13 := (e1.trans e2).trans e3
      have k13 := (k1.trans k2).trans k3
      cases r with
      | false => exact q3 m3 H3 _ e13 k13 rh3 rfl
      | true =>
        refine tE_in rh3 (rl2.mono k3 e3) (LX.mono e13 k13) q3 fun m4 H4 u4 w4 h4 e4 k4 rh4 rl4 rv4 q4 => ?_
        refine ⟨m4, h4, u, u4, rh4, rv2.mono (k3.trans k4) (e3.trans e4), rv4, cmpV_mono (fun r h5 q5 m5 H5 e5 k5 rh5 => ?_) q4⟩
        exact q5 m5 H5 _ ((e13.trans e4).trans e5) ((k13.trans k4).trans k5) rh5 rfl
  | .ite c a b, X, N, sc, W, x, g, hm => by
    cases x <;> first | exact absurd hm Bool.false_ne_true | skip
    obtain ⟨h12, h3⟩ := ba hm
    obtain ⟨h1, h2⟩ := ba h12
    refine (pe_ifExp (sT c X N sc W _ g h1).1 (sE a X N sc W _ g h2) (sE b X N sc W _ g h3)).wk fun σ H Q q => ?_
    obtain ⟨m, l, h, rh, rl, q⟩ := q
    refine tT_in rh rl (fun _ _ z => z) q fun m1 H1 r h1 e1 k1 rh1 rl1 q1 => ?_
    cases r with
    | true => exact tE_in rh1 rl1 (LX.mono e1 k1) q1 fun m2 H2 u w2 h2 e2 k2 rh2 rl2 rv2 q2 => (LQ.mono (e1.trans e2) (k1.trans k2) _ _ q2).at rh2 rv2
    | false => exact tE_in rh1 rl1 (LX.mono e1 k1) q1 fun m2 H2 u w2 h2 e2 k2 rh2 rl2 rv2 q2 => (LQ.mono (e1.trans e2) (k1.trans k2) _ _ q2).at rh2 rv2
  | .tup es, X, N, sc, W, x, g, hm => by
    cases x <;> first | exact absurd hm Bool.false_ne_true | skip
    refine (pe_tup (sEs es X N sc W _ g hm)).wk fun σ H Q q => ?_
    obtain ⟨m, l, h, rh, rl, q⟩ := q
    refine tA_in rh rl (fun _ _ z => z) q fun m1 H1 v w h1 e1 k1 rh1 rl1 rv1 q1 => ?_
    refine ⟨by rw [← rv1.len]; exact q1.1, fun p hp => ?_⟩
    exact q1.2 m1 (upd H1 p (.tup w)) _ e1 (k1.trans (Kp.upd_new hp)) (rh1.tup hp) ⟨p, w, rfl, .inl (.inl upd_same), rv1.mono (Kp.upd_new hp) (Ex.refl m1) _ _⟩
  | .lst es, X, N, sc, W, x, g, hm => by
    cases x <;> first | exact absurd hm Bool.false_ne_true | skip
    refine (pe_lst (sEs es X N sc W _ g hm)).wk fun σ H Q q => ?_
    obtain ⟨m, l, h, rh, rl, q⟩ := q
    refine tA_in rh rl (fun _ _ z => z) q fun m1 H1 v w h1 e1 k1 rh1 rl1 rv1 q1 => ?_
    refine ⟨by rw [← rv1.len]; exact q1.1, ?_⟩
    exact (LQ.mono e1 k1 _ _ q1.2).new rh1 rfl fun p hp => ⟨w, upd_same, rv1.mono (Kp.upd_new hp) (Ex.app m1 p) _ _⟩
  | .idx a b, X, N, sc, W, x, g, hm => by
    cases x <;> first | exact absurd hm Bool.false_ne_true | skip
    rename_i y z pos
    have hm' : (mE M.toMe N sc a y && mE M.toMe N sc b z) = true := by
      cases z <;> exact hm
    obtain ⟨h1, h2⟩ := ba hm'
    refine (pe_ix (sIx_ g.hK (by have := g.room.un; omega)) (sE a X N sc W _ g h1) (sE b X N sc W _ g h2) (plainIx_of h2)).wk fun σ H Q q => ?_
    obtain ⟨m, l, h, rh, rl, q⟩ := q
    refine tE_in rh rl (fun _ _ z => z) q fun m1 H1 v w h1 e1 k1 rh1 rl1 rv1 q1 => ?_
    refine tE_in rh1 rl1 (LX.mono e1 k1) q1 fun m2 H2 u w2 h2 e2 k2 rh2 rl2 rv2 q2 => ?_
    exact ⟨m2, h2, v, u, rh2, rv1.mono k2 e2, rv2, idxV_mono (LQ.mono (e1.trans e2) (k1.trans k2)) q2⟩
  | .dxi a b, X, N, sc, W, x, g, hm => by
    cases x <;> first | exact absurd hm Bool.false_ne_true | skip
    rename_i y z pos
    have hm' : (mE M.toMe N sc a y && mE M.toMe N sc b z) = true := by
      cases z <;> exact hm
    obtain ⟨h1, h2⟩ := ba hm'
    refine (pe_ix (sDx_ g.hK (by have := g.room.un; omega)) (sE a X N sc W _ g h1) (sE b X N sc W _ g h2) (plainIx_of h2)).wk fun σ H Q q => ?_
    obtain ⟨m, l, h, rh, rl, q⟩ := q
    refine tE_in rh rl (fun _ _ z => z) q fun m1 H1 v w h1 e1 k1 rh1 rl1 rv1 q1 => ?_
    refine tE_in rh1 rl1 (LX.mono e1 k1) q1 fun m2 H2 u w2 h2 e2 k2 rh2 rl2 rv2 q2 => ?_
    exact ⟨m2, h2, v, u, rh2, rv1.mono k2 e2, rv2, dxiV_mono (LQ.mono (e1.trans e2) (k1.trans k2)) q2⟩
  | .slc a lo hi, X, N, sc, W, x, g, hm => by
    cases x <;> first | exact absurd hm Bool.false_ne_true | skip
    rename_i y z pos
    cases z <;> first | exact absurd hm Bool.false_ne_true | skip
    rename_i l u st p2
    cases st <;> first | exact absurd hm Bool.false_ne_true | skip
    obtain ⟨h12, h3⟩ := ba hm
    obtain ⟨h1, h2⟩ := ba h12
    refine (pe_slice (sSl g.hK) (sE a X N sc W _ g h1) (sO lo X N sc W _ g h2) (sO hi X N sc W _ g h3)).wk fun σ H Q q => ?_
    obtain ⟨m, l, h, rh, rl, q⟩ := q
    refine tE_in rh rl (fun _ _ z => z) q fun m1 H1 v w h1 e1 k1 rh1 rl1 rv1 q1 => ?_
    refine tO_in rh1 rl1 (LX.mono e1 k1) q1 fun m2 H2 u h2 e2 k2 rh2 rl2 q2 => ?_
    refine tO_in rh2 rl2 (LX.mono (e1.trans e2) (k1.trans k2)) q2 fun m3 H3 u3 h3 e3 k3 rh3 rl3 q3 => ?_
    exact ⟨m3, h3, v, rh3, rv1.mono (k2.trans k3) (e2.trans e3), slcV_mono (LQ.mono ((e1.trans e2).trans e3) ((k1.trans k2).trans k3)) q3⟩
  | .call f es, X, N, sc, W, x, g, hm => by
    cases x <;> first | exact absurd hm Bool.false_ne_true | skip
    rename_i fn xs kw pos
    cases fn <;> first | exact absurd hm Bool.false_ne_true | skip
    rename_i id p
    cases kw <;> first | exact absurd hm Bool.false_ne_true | skip
    obtain ⟨h01, h234⟩ := ba hm
    obtain ⟨h1, h0⟩ := ba h01
    obtain ⟨h2, h34⟩ := ba h234
    obtain ⟨h3, h4⟩ := ba h34
    have e := of_decide_eq_true h2
    obtain ⟨g1, g2⟩ := gl_of g h3
    obtain ⟨d, hf⟩ := Option.isSome_iff_exists.mp h0
    refine (pe_callG g hf e.symm h1 g1 g2 h4 (sEs es X N sc W _ g h4) (fun hx σ H Q q => ?_)).wk fun σ H Q q => ?_
    · subst hx
      cases es with
      | nil => obtain ⟨m, l, h, rh, rl, q⟩ := q; exact q m H [] (Ex.refl m) (Kp.refl _ H) rh rfl
      | cons _ _ => exact absurd h4 Bool.false_ne_true
    · obtain ⟨m, l, h, rh, rl, q⟩ := q
      refine tA_in rh rl (fun _ _ z => z) q fun m1 H1 v w h1 e1 k1 rh1 rl1 rv1 q1 => ?_
      exact call_sp hf rh1 rv1 (callS_mono (LQ.mono e1 k1) (LX.mono e1 k1) q1)
  | .isi f a, X, N, sc, W, x, g, hm => by
    cases x <;> first | exact absurd hm Bool.false_ne_true | skip
    rename_i fn xs kw pos
    cases fn <;> first | exact absurd hm Bool.false_ne_true | skip
    rename_i id p
    match xs, kw, hm with
    | [], _, hm => exact absurd hm Bool.false_ne_true
    | [_], _, hm => exact absurd hm Bool.false_ne_true
    | _ :: _ :: _ :: _, _, hm => simp [mE] at hm
    | [_, _], _ :: _, hm => simp [mE] at hm
    | [y, z], [], hm =>
      cases z <;> first | exact absurd hm Bool.false_ne_true | skip
      rename_i t tp
      obtain ⟨h12, h3456⟩ := ba hm
      obtain ⟨h1, h2⟩ := ba h12
      obtain ⟨h34, h56⟩ := ba h3456
      obtain ⟨h3, h4⟩ := ba h34
      obtain ⟨h5, h6⟩ := ba h56
      exact sIsT g h1 (of_decide_eq_true h3) (of_decide_eq_true h4) h2 h5 h6 (sE a X N sc W _ g h6)
  | .bf f .nil, X, N, sc, W, x, g, hm => by
    cases x <;> first | exact absurd hm Bool.false_ne_true | simp [mE] at hm
  | .bf f (.cons a r), X, N, sc, W, x, g, hm => by
    cases x <;> first | exact absurd hm Bool.false_ne_true | skip
    rename_i fn xs kw pos
    cases fn <;> first | exact absurd hm Bool.false_ne_true | skip
    rename_i id p
    cases kw <;> first | exact absurd hm Bool.false_ne_true | skip
    obtain ⟨h12, h34⟩ := ba hm
    obtain ⟨h1, h2⟩ := ba h12
    obtain ⟨h3, h4⟩ := ba h34
    cases xs with
    | nil => exact absurd h4 Bool.false_ne_true
    | cons y ys =>
      refine (sBf g f (nb h1) (of_decide_eq_true h3) h2 h4 (sEs (.cons a r) X N sc W _ g h4)).wk fun σ H Q q => ?_
      obtain ⟨m, l, h, rh, rl, q⟩ := q
      refine tA_in rh rl (fun _ _ z => z) q fun m1 H1 v w h1 e1 k1 rh1 rl1 rv1 q1 => ?_
      exact ⟨m1, h1, v, rh1, rv1, bfV_mono (LQ.mono e1 k1) q1⟩
  | .mkK c es e, X, N, sc, W, x, g, hm => by
    cases x <;> first | exact absurd hm Bool.false_ne_true | skip
    rename_i fn xs kw pos
    cases fn <;> first | exact absurd hm Bool.false_ne_true | skip
    rename_i id p
    match kw, hm with
    | [], hm => exact absurd hm Bool.false_ne_true
    | ⟨none, _, _⟩ :: _, hm => exact absurd hm (by simp [mE])
    | ⟨some _, _, _⟩ :: _ :: _, hm => exact absurd hm (by simp [mE])
    | [⟨some kn, z, kp⟩], hm =>
      obtain ⟨h123, h456⟩ := ba hm
      obtain ⟨h12, h3⟩ := ba h123
      obtain ⟨h1, h2⟩ := ba h12
      obtain ⟨h3, h3'⟩ := ba h3
      obtain ⟨h4, h56⟩ := ba h456
      obtain ⟨h5, h6⟩ := ba h56
      have e1 := of_decide_eq_true h3
      subst e1
      obtain ⟨cd, hc⟩ := Option.isSome_iff_exists.mp h1
      cases xs with
      | nil => exact absurd h3' Bool.false_ne_true
      | cons y0 ys => exact pe_mkNG g hc h2 h4 h5 (sEs es X N sc W _ g h5) (sE e X N sc W _ g h6)
  | .dicl ks vs, X, N, sc, W, x, g, hm => by
    cases x <;> first | exact absurd hm Bool.false_ne_true | skip
    rename_i keys xs pos
    obtain ⟨h1234, h5⟩ := ba hm
    obtain ⟨h1, h234⟩ := ba h1234
    obtain ⟨h2, h34⟩ := ba h234
    obtain ⟨h3, h4⟩ := ba h34
    obtain ⟨trs, hp, ht⟩ := sPs vs X N sc W pos xs ks keys g h5
    refine (pe_disp hp h1 (of_decide_eq_true h2) (fun z => by rw [z] at h3; exact absurd h3 Bool.false_ne_true) (of_decide_eq_true h4)).wk fun σ H Q q => ?_
    obtain ⟨m, l, h, rh, rl, q⟩ := q
    intro p hpn
    have q : evEs M.G (callS M.G k) (LX M W σ m H) vs l (h ++ [.dic []]) fun xs h2 => h2[h.length]? = some (.dic []) ∧ xs.length = ks.length ∧ ks.length ≤ 15 ∧ LQ M m H Q (.ref h.length) (h2.set h.length (.dic (mergeD [] ks xs))) := q
    have rh1 : RH M (upd H p (.dK [])) (m ++ [p]) (h ++ [.dic []]) := rh.new (o := .dic []) hpn ⟨[], upd_same, rfl⟩ rfl
    have k1 : Kp M.K H (upd H p (.dK [])) := Kp.upd_new hpn
    have e1 : Ex m (m ++ [p]) := Ex.app m p
    refine ht σ _ _ ⟨m ++ [p], l, h ++ [.dic []], rh1, rl.mono k1 e1, evEs_mono (csle M k) (LX.mono e1 k1) vs _ _ _ _ (fun ws h2 q2 m2 H2 zs e2 k2 rh2 rv2 => ?_) q⟩
    obtain ⟨q1, q3, q4, q5⟩ := q2
    have ep : m2[h.length]? = some p := e2 _ _ (by rw [← rh.len]; simp)
    obtain ⟨ks0, a1, a2⟩ := rh2.obj _ _ _ q1 ep
    cases (show ks0 = [] from a2)
    have zl := rv2.len
    refine ⟨a1, (ks.zip zs).map fun kv => (.inr kv.1, kv.2), ?_, ?_, ?_⟩
    · exact zip_kv ks zs
    · rw [List.length_map, List.length_zip]; omega
    · have kk : Kp M.K H2 (upd H2 p (.dK (mergeK [] ((ks.zip zs).map fun kv => (.inr kv.1, kv.2))))) := Kp.upd_old a1 rfl
      have rk : RKs M.K H2 m2 (mergeD [] ks ws) (mergeK [] ((ks.zip zs).map fun kv => (.inr kv.1, kv.2))) := merge_of ks ws zs [] [] rfl rv2
      have put := rh2.put (u := .dK (mergeK [] ((ks.zip zs).map fun kv => (.inr kv.1, kv.2)))) (o := .dic (mergeD [] ks ws)) q1 ep rfl rfl ⟨_, upd_same, rk.mono kk (Ex.refl m2)⟩
      exact q5 m2 _ (.ref p) (e1.trans e2) ((k1.trans k2).trans kk) put.1 ⟨p, ep, rfl⟩
  | .slr a, X, N, sc, W, x, g, hm => by
    cases x <;> first | exact absurd hm Bool.false_ne_true | skip
    rename_i y z pos
    cases z <;> first | exact absurd hm Bool.false_ne_true | skip
    rename_i l u st p2
    cases l <;> first | exact absurd hm Bool.false_ne_true | skip
    cases u <;> first | exact absurd hm Bool.false_ne_true | skip
    cases st <;> first | exact absurd hm Bool.false_ne_true | skip
    rename_i st
    cases st <;> first | exact absurd hm Bool.false_ne_true | skip
    rename_i op st p3
    cases op <;> first | exact absurd hm Bool.false_ne_true | skip
    cases st <;> first | exact absurd hm Bool.false_ne_true | skip
    rename_i cst k4 p4
    cases cst <;> first | exact absurd hm Bool.false_ne_true | skip
    obtain ⟨h1, h2⟩ := ba hm
    have e1 := of_decide_eq_true h1
    subst e1
    refine (pe_revL (sE a X N sc W _ g h2)).wk fun σ H Q q => ?_
    obtain ⟨m, l, h, rh, rl, q⟩ := q
    refine tE_in rh rl (fun _ _ z => z) q fun m1 H1 v w h1 e1 k1 rh1 rl1 rv1 q1 => ?_
    obtain ⟨p, xs, rfl, e2, q1⟩ := q1
    obtain ⟨pa, vs, rfl, e3, e4⟩ := lstOf_get rh1 rv1 e2
    exact ⟨pa, vs, rfl, by rw [g.hK]; exact e3, (LQ.mono e1 k1 _ _ q1).new rh1 rfl fun p2 hp2 => ⟨_, upd_same, e4.rev.mono (Kp.upd_new hp2) (Ex.app m1 p2) _ _⟩⟩
  | .dic0, X, N, sc, W, x, g, hm => by
    cases x <;> first | exact absurd hm Bool.false_ne_true | skip
    rename_i ks vs pos
    match ks, vs, hm with
    | [], [], hm =>
      refine pe_dnewK.wk fun σ H Q q => ?_
      obtain ⟨m, l, h, rh, rl, q⟩ := q
      exact LQ.new q rh rfl fun p hp => ⟨[], upd_same, rfl⟩
    | _ :: _, _, hm => exact absurd hm Bool.false_ne_true
    | [], _ :: _, hm => exact absurd hm Bool.false_ne_true
  | .dup o a, X, N, sc, W, x, g, hm => by
    cases x <;> first | exact absurd hm Bool.false_ne_true | skip
    rename_i fn xs kw pos
    cases fn <;> first | exact absurd hm Bool.false_ne_true | skip
    rename_i y name p
    match xs, kw, hm with
    | [z], [], hm =>
      obtain ⟨h12, h345⟩ := ba hm
      obtain ⟨h1, h2⟩ := ba h12
      obtain ⟨h3, h45⟩ := ba h345
      obtain ⟨h4, h5⟩ := ba h45
      have e := of_decide_eq_true h1
      subst e
      have tr : backTo pos (starEach [z] X.env) = [(false, eval z X.env)] := by rw [star_of h5 X.env] <;> rfl
      refine (pe_dup (apos := p) (cpos := pos) (sE o X N sc W y g h4) (sE a X N sc W z g h5) ⟨base_of h3 _ _, by rw [tr] <;> rfl, h2, tr⟩).wk fun σ H Q q => ?_
      obtain ⟨m, l, h, rh, rl, q⟩ := q
      refine tE_in rh rl (fun _ _ z => z) q fun m1 H1 v w h1 e1 k1 rh1 rl1 rv1 q1 => ?_
      obtain ⟨ty, q1⟩ := q1
      obtain ⟨pa, rfl, ks0, e0⟩ := dic_ty rh1 rv1 ty
      refine ⟨pa, rfl, .inl ⟨ks0, e0⟩, ?_⟩
      refine tE_in rh1 rl1 (LX.mono e1 k1) q1 fun m2 H2 u w2 h2 e2 k2 rh2 rl2 rv2 q2 => ?_
      obtain ⟨b, r, kvs, more, rfl, rfl, hne, ed, em, hz, q2⟩ := q2
      obtain ⟨pb, eb, rv1'⟩ := rv1
      cases rv1'
      obtain ⟨pr, er, rv2'⟩ := rv2
      cases rv2'
      have eb2 := e2 _ _ eb
      obtain ⟨ks, e4, rk⟩ := rh2.obj _ _ _ ed eb2
      obtain ⟨ms, e5, rm⟩ := rh2.obj _ _ _ em er
      refine ⟨pr, ks, ms, rfl, fun z => hne (rh2.inj _ _ _ _ _ eb2 (by rw [z]; exact er) ed em rfl rfl), e4, e5, by rw [← rk.len, ← rm.len]; exact hz, ?_⟩
      exact (LQ.mono ((e1.trans e2)) ((k1.trans k2)) _ _ q2).put rh2 ed eb2 rfl rfl (fun kk => ⟨_, upd_same, (mergeU_of more ms kvs ks rk rm).mono kk (Ex.refl m2) _ _⟩) (fun _ => rfl)
  | .dget o a b, X, N, sc, W, x, g, hm => by
    cases x <;> first | exact absurd hm Bool.false_ne_true | skip
    rename_i fn xs kw pos
    cases fn <;> first | exact absurd hm Bool.false_ne_true | skip
    rename_i y name p
    match xs, kw, hm with
    | [z, w], [], hm =>
      obtain ⟨h12, h3456⟩ := ba hm
      obtain ⟨h1, h2⟩ := ba h12
      obtain ⟨h3, h456⟩ := ba h3456
      obtain ⟨h4, h56⟩ := ba h456
      obtain ⟨h5, h6⟩ := ba h56
      have e := of_decide_eq_true h1
      subst e
      have tr : backTo pos (starEach [z, w] X.env) = [(false, eval z X.env), (false, eval w X.env)] := by rw [star_of h5 X.env, star_of h6 X.env] <;> rfl
      refine (pe_dget2 (apos := p) (cpos := pos) (by have := g.room.un; omega) (sE o X N sc W y g h4) (sE a X N sc W z g h5) (sE b X N sc W w g h6) ⟨base_of h3 _ _, by rw [tr] <;> rfl, h2, tr⟩).wk fun σ H Q q => ?_
      obtain ⟨m, l, h, rh, rl, q⟩ := q
      refine tE_in rh rl (fun _ _ z => z) q fun m1 H1 v w h1 e1 k1 rh1 rl1 rv1 q1 => ?_
      obtain ⟨ty, q1⟩ := q1
      obtain ⟨pa, rfl, ks0, e0⟩ := dic_ty rh1 rv1 ty
      refine ⟨pa, rfl, .inl ⟨ks0, e0⟩, ?_⟩
      refine tE_in rh1 rl1 (LX.mono e1 k1) q1 fun m2 H2 u w2 h2 e2 k2 rh2 rl2 rv2 q2 => ?_
      refine tE_in rh2 rl2 (LX.mono (e1.trans e2) (k1.trans k2)) q2 fun m3 H3 u3 w3 h3 e3 k3 rh3 rl3 rv3 q3 => ?_
      obtain ⟨b, kvs, rfl, ed, hk, q3⟩ := q3
      obtain ⟨pb, eb, rv1'⟩ := rv1
      cases rv1'
      obtain ⟨ks, e4, rk⟩ := dic_at rh3 (e3 _ _ (e2 _ _ eb)) ed
      obtain ⟨q', hq, rfl⟩ := isK_of hk rv2
      refine ⟨valV ks q', .inl ⟨ks, q', e4, rfl, rfl⟩, ?_⟩
      have lk := look_of hq rk
      refine ((LQ.mono ((e1.trans e2).trans e3) ((k1.trans k2).trans k3) _ _ q3).at rh3 ?_)
      cases e5 : lookD u kvs <;> cases e6 : valV ks q' <;> rw [e5, e6] at lk <;> first | exact lk.elim | exact rv3 | exact lk
    | [], _, hm => exact absurd hm Bool.false_ne_true
    | [_], _, hm => exact absurd hm Bool.false_ne_true
    | _ :: _ :: _ :: _, _, hm => simp [mE] at hm
    | [_, _], _ :: _, hm => exact absurd hm Bool.false_ne_true
  | .lke e, X, N, sc, W, x, g, hm => by
    have pe := sE e X N sc W x g hm
    refine ⟨fun pins s σ H Q I h => ?_⟩
    obtain ⟨m, l, hh, rh, rl, q⟩ := h
    rcases q with q | ⟨a, kvs, e1, q⟩
    · exact pe.run pins s σ H Q I ⟨m, l, hh, rh, rl, q⟩
    · obtain ⟨p, ep, _⟩ := rh.addr e1
      obtain ⟨ks, hp, lk⟩ := rh.lock e1 ep
      refine (pe_lock pe).run pins s σ H Q I ⟨p, .dK ks, hp, trivial, fun od => ?_⟩
      refine ⟨m, l, _, (lk od).1, rl.mono (lk od).2 (Ex.refl m), evE_mono (csle M k) (fun _ _ z => z.elim) e l _ _ _ (fun v h' q2 m' H' w e' k' rh' rv' => ?_) q⟩
      obtain ⟨r1, kk, mv, _⟩ := RH.loose k' hp rh' q2.1 (e' _ _ ep)
      exact ⟨k'.frz _ _ _ upd_same, q2.2 m' _ w e' kk r1 (mv _ _ rv')⟩
  | .co e, X, N, sc, W, x, g, hm => by
    refine (sE e X N sc W x g hm).wk fun σ H Q q => ?_
    obtain ⟨m, l, h, rh, rl, q⟩ := q
    refine tE_in rh rl (fun _ _ z => z) q fun m1 H1 v w h1 e1 k1 rh1 rl1 rv1 q1 => ?_
    rcases q1 with q1 | ⟨a, xs, rfl, e2, q1⟩
    · exact (LQ.mono e1 k1 _ _ q1).at rh1 rv1
    · obtain ⟨p, ep, rfl⟩ := rv1
      obtain ⟨vs, ⟨o, e3, _⟩, e4⟩ := rh1.obj _ _ _ e2 ep
      exact (LQ.mono e1 k1 _ _ q1).at rh1 ⟨p, vs, rfl, .inl (.inr ⟨o, e3⟩), e4⟩
  | .dg1 o a, X, N, sc, W, x, g, hm => by
    cases x <;> first | exact absurd hm Bool.false_ne_true | skip
    rename_i fn xs kw pos
    cases fn <;> first | exact absurd hm Bool.false_ne_true | skip
    rename_i y name p
    match xs, kw, hm with
    | [z], [], hm =>
      obtain ⟨h12, h345⟩ := ba hm
      obtain ⟨h1, h2⟩ := ba h12
      obtain ⟨h3, h45⟩ := ba h345
      obtain ⟨h4, h5⟩ := ba h45
      have e := of_decide_eq_true h1
      subst e
      have tr : backTo pos (starEach [z] X.env) = [(false, eval z X.env)] := by rw [star_of h5 X.env] <;> rfl
      refine (pe_dget1 (apos := p) (cpos := pos) (by have := g.room.un; omega) (sE o X N sc W y g h4) (sE a X N sc W z g h5) ⟨base_of h3 _ _, by rw [tr] <;> rfl, h2, tr⟩).wk fun σ H Q q => ?_
      obtain ⟨m, l, h, rh, rl, q⟩ := q
      refine tE_in rh rl (fun _ _ z => z) q fun m1 H1 v w h1 e1 k1 rh1 rl1 rv1 q1 => ?_
      obtain ⟨ty, q1⟩ := q1
      obtain ⟨pa, rfl, ks0, e0⟩ := dic_ty rh1 rv1 ty
      refine ⟨pa, rfl, .inl ⟨ks0, e0⟩, ?_⟩
      refine tE_in rh1 rl1 (LX.mono e1 k1) q1 fun m2 H2 u w2 h2 e2 k2 rh2 rl2 rv2 q2 => ?_
      obtain ⟨b, kvs, rfl, ed, hk, q2⟩ := q2
      obtain ⟨pb, eb, rv1'⟩ := rv1
      cases rv1'
      obtain ⟨ks, e4, rk⟩ := dic_at rh2 (e2 _ _ eb) ed
      obtain ⟨q', hq, rfl⟩ := isK_of hk rv2
      refine ⟨valV ks q', .inl ⟨ks, q', e4, rfl, rfl⟩, ?_⟩
      have lk := look_of hq rk
      refine ((LQ.mono (e1.trans e2) (k1.trans k2) _ _ q2).at rh2 ?_)
      cases e5 : lookD u kvs <;> cases e6 : valV ks q' <;> rw [e5, e6] at lk <;> first | exact lk.elim | rfl | exact lk
  | .attr a f, X, N, sc, W, x, g, hm => by
    cases x <;> first | exact absurd hm Bool.false_ne_true | skip
    rename_i y nm pos
    obtain ⟨h12, h3⟩ := ba hm
    obtain ⟨h1, h2⟩ := ba h12
    have e := of_decide_eq_true h1
    subst e
    refine (pe_fld (sE a X N sc W y g h3) (base_of h2 _ _)).wk fun σ H Q q => ?_
    obtain ⟨m, l, h, rh, rl, q⟩ := q
    refine tE_in rh rl (fun _ _ z => z) q fun m1 H1 v w h1 e1 k1 rh1 rl1 rv1 q1 => ?_
    obtain ⟨p, c, fs, u, cd, rfl, ep, hc, hf, eg, q1⟩ := q1
    obtain ⟨pa, e2, rfl⟩ := rv1
    obtain ⟨dx, gs, cd', a1, a2, a3, a4, a5⟩ := rh1.obj _ _ _ ep e2
    rw [hc] at a2; cases a2
    have ok := g.cls c cd hc
    have o := a3 f hf
    rw [eg] at o
    cases el : gs.lookup (M.nm f) with
    | none => rw [el] at o; exact o.elim
    | some z =>
      rw [el] at o
      exact ⟨pa, _, dx, gs, z, rfl, a1, by rw [g.hK]; exact ok.cls, by rw [g.hK]; exact ok.noat f (List.contains_iff_mem.mp hf), el, (LQ.mono e1 k1 _ _ q1).at rh1 o⟩
  | .mk c es, X, N, sc, W, x, g, hm => by
    cases x <;> first | exact absurd hm Bool.false_ne_true | skip
    rename_i fn xs kw pos
    cases fn <;> first | exact absurd hm Bool.false_ne_true | skip
    rename_i id p
    cases kw <;> first | exact absurd hm Bool.false_ne_true | skip
    obtain ⟨h1, h234⟩ := ba hm
    obtain ⟨h2, h34⟩ := ba h234
    obtain ⟨h3, h4⟩ := ba h34
    have e := of_decide_eq_true h2
    subst e
    unfold mkB at h1
    cases hc : M.toMe.G.cls c with
    | none => rw [hc] at h1; cases h1
    | some cd =>
      rw [hc] at h1
      exact pe_mkG g hc (by simpa using h1) h3 h4 (sEs es X N sc W _ g h4)
  | .mk0 c, X, N, sc, W, x, g, hm => by
    cases x <;> first | exact absurd hm Bool.false_ne_true | skip
    rename_i fn xs kw pos
    cases fn <;> first | exact absurd hm Bool.false_ne_true | skip
    rename_i id p
    cases xs <;> first | exact absurd hm Bool.false_ne_true | skip
    cases kw <;> first | exact absurd hm Bool.false_ne_true | skip
    obtain ⟨h1, h23⟩ := ba hm
    obtain ⟨h2, h3⟩ := ba h23
    have e := of_decide_eq_true h2
    subst e
    unfold mk0B at h1
    cases hc : M.toMe.G.cls c with
    | none => rw [hc] at h1; cases h1
    | some cd =>
      rw [hc] at h1
      exact pe_mk0G g hc h1 h3
  | .lzip a b, X, N, sc, W, x, g, hm => by
    cases x <;> first | exact absurd hm Bool.false_ne_true | skip
    rename_i fn xs kw pos
    cases fn <;> first | exact absurd hm Bool.false_ne_true | skip
    rename_i id p
    match xs, kw, hm with
    | [], _, hm => exact absurd hm Bool.false_ne_true
    | _ :: _ :: _, _, hm => simp [mE] at hm
    | [y], _ :: _, hm => simp [mE] at hm
    | [y], [], hm =>
      cases y <;> first | exact absurd hm Bool.false_ne_true | skip
      rename_i fn ys kw pos2
      cases fn <;> first | exact absurd hm Bool.false_ne_true | skip
      rename_i id2 p2
      match ys, kw, hm with
      | [], _, hm => exact absurd hm Bool.false_ne_true
      | [_], _, hm => exact absurd hm Bool.false_ne_true
      | _ :: _ :: _ :: _, _, hm => simp [mE] at hm
      | [_, _], _ :: _, hm => simp [mE] at hm
      | [z, u], [], hm =>
        obtain ⟨h12, h345⟩ := ba hm
        obtain ⟨h1, h2⟩ := ba h12
        obtain ⟨h34, h56⟩ := ba h345
        obtain ⟨h3, h4⟩ := ba h34
        obtain ⟨h5, h6⟩ := ba h56
        have e := of_decide_eq_true h1
        subst e
        have e := of_decide_eq_true h3
        subst e
        obtain ⟨g1, _⟩ := gl_of g h2
        obtain ⟨g3, _⟩ := gl_of g h4
        refine (pe_listZip g.calm g1 (g.glo.free _ (by simp [bltNames])) g3 (g.glo.free _ (by simp [bltNames])) (pa_cons (sE a X N sc W z g h5) (pa_cons (sE b X N sc W u g h6) pa_nil (star_of h6 X.env _)) (star_of h5 X.env _)) (star_of h5 X.env _) (by rw [star_of h6 X.env] <;> rfl)).wk fun σ H Q q => ?_
        obtain ⟨m, l, h, rh, rl, q⟩ := q
        refine tE_in rh rl (fun _ _ z => z) q fun m1 H1 v w h1 e1 k1 rh1 rl1 rv1 q1 => ?_
        refine tE_in rh1 rl1 (LX.mono e1 k1) q1 fun m2 H2 u w2 h2 e2 k2 rh2 rl2 rv2 q2 => ?_
        obtain ⟨xs, ys, q3, q4, q5, q7⟩ := q2
        obtain ⟨p1, vs, rfl, e3, e4⟩ := lstOf_get rh2 (rv1.mono k2 e2) q3
        obtain ⟨p2, ws, rfl, e5, e6⟩ := lstOf_get rh2 rv2 q4
        have ll : vs.length = ws.length := by rw [← e4.len, ← e6.len]; exact q5
        refine ⟨p1, p2, vs, ws, rfl, by rw [g.hK]; exact e3, by rw [g.hK]; exact e5, ll, fun q' as nq nd la fr => ?_⟩
        have fs := tups_fst la ll
        obtain ⟨r3, k3⟩ := rh_lay (L := tupsL as vs ws) rh2 (by rw [fs]; exact nd) fun q m => fr q.1 (List.mem_cons_of_mem _ (by rw [← fs]; exact List.mem_map_of_mem (f := fun q : Addr × HO => q.1) m))
        have hq : layAll (tupsL as vs ws) H2 q' = none := by rw [layAll_ne (by rw [fs]; exact nq)]; exact fr q' (List.mem_cons_self ..)
        have kk : Kp M.K (layAll (tupsL as vs ws) H2) (upd (layAll (tupsL as vs ws) H2) q' (.lst (as.map V.ref))) := Kp.upd_new hq
        have rz : RVs M.K (layAll (tupsL as vs ws) H2) m2 (zipT xs ys) (as.map V.ref) := zip_rv (RVs.mono k3 (Ex.refl _) _ _ e4) (RVs.mono k3 (Ex.refl _) _ _ e6) q5 la fun j a u w f1 f2 f3 => layAll_at (q := (a, .tup [u, w])) (by rw [fs]; exact nd) (tups_at f1 f2 f3)
        exact q7 (m2 ++ [q']) (upd (layAll (tupsL as vs ws) H2) q' (.lst (as.map V.ref))) (.ref q') ((e1.trans e2).trans (Ex.app m2 q')) (((k1.trans k2).trans k3).trans kk) (r3.new hq ⟨_, upd_same, RVs.mono kk (Ex.app m2 q') _ _ rz⟩ rfl) ⟨q', by rw [← r3.len]; simp, rfl⟩
  | .dzip a b, X, N, sc, W, x, g, hm => by
    cases x <;> first | exact absurd hm Bool.false_ne_true | skip
    rename_i fn xs kw pos
    cases fn <;> first | exact absurd hm Bool.false_ne_true | skip
    rename_i id p
    match xs, kw, hm with
    | [], _, hm => exact absurd hm Bool.false_ne_true
    | _ :: _ :: _, _, hm => simp [mE] at hm
    | [y], _ :: _, hm => simp [mE] at hm
    | [y], [], hm =>
      cases y <;> first | exact absurd hm Bool.false_ne_true | skip
      rename_i fn ys kw pos2
      cases fn <;> first | exact absurd hm Bool.false_ne_true | skip
      rename_i id2 p2
      match ys, kw, hm with
      | [], _, hm => exact absurd hm Bool.false_ne_true
      | [_], _, hm => exact absurd hm Bool.false_ne_true
      | _ :: _ :: _ :: _, _, hm => simp [mE] at hm
      | [_, _], _ :: _, hm => simp [mE] at hm
      | [z, u], [], hm =>
        obtain ⟨h12, h345⟩ := ba hm
        obtain ⟨h1, h2⟩ := ba h12
        obtain ⟨h34, h56⟩ := ba h345
        obtain ⟨h3, h4⟩ := ba h34
        obtain ⟨h5, h6⟩ := ba h56
        have e := of_decide_eq_true h1
        subst e
        have e := of_decide_eq_true h3
        subst e
        obtain ⟨g1, _⟩ := gl_of g h2
        obtain ⟨g3, _⟩ := gl_of g h4
        refine (pe_dictZip g.calm g1 (g.glo.free _ (by simp [bltNames])) g3 (g.glo.free _ (by simp [bltNames])) (pa_cons (sE a X N sc W z g h5) (pa_cons (sE b X N sc W u g h6) pa_nil (star_of h6 X.env _)) (star_of h5 X.env _)) (star_of h5 X.env _) (by rw [star_of h6 X.env] <;> rfl)).wk fun σ H Q q => ?_
        obtain ⟨m, l, h, rh, rl, q⟩ := q
        refine tE_in rh rl (fun _ _ z => z) q fun m1 H1 v w h1 e1 k1 rh1 rl1 rv1 q1 => ?_
        refine tE_in rh1 rl1 (LX.mono e1 k1) q1 fun m2 H2 u w2 h2 e2 k2 rh2 rl2 rv2 q2 => ?_
        obtain ⟨xs, ys, q3, q4, q5, q6, q7⟩ := q2
        obtain ⟨p1, vs, rfl, e3, e4⟩ := lstOf_get rh2 (rv1.mono k2 e2) q3
        obtain ⟨p2, ws, rfl, e5, e6⟩ := lstOf_get rh2 rv2 q4
        obtain ⟨kvs, rfl, rfl, hm⟩ := zip_rel xs ys vs ws q6 q5 e4 e6
        refine ⟨p1, p2, kvs, rfl, by rw [g.hK]; exact e3, by rw [g.hK]; exact e5, fun q' hq => ?_⟩
        have kk : Kp M.K H2 (upd H2 q' (.dK (mergeK [] kvs))) := Kp.upd_new hq
        exact q7 (m2 ++ [q']) (upd H2 q' (.dK (mergeK [] kvs))) (.ref q') ((e1.trans e2).trans (Ex.app m2 q')) ((k1.trans k2).trans kk) (rh2.new hq ⟨_, upd_same, (hm [] [] rfl).mono kk (Ex.app m2 q')⟩ rfl) ⟨q', by rw [← rh2.len]; simp, rfl⟩
  | .lrg1 a, X, N, sc, W, x, g, hm => by
    cases x <;> first | exact absurd hm Bool.false_ne_true | skip
    rename_i fn xs kw pos
    cases fn <;> first | exact absurd hm Bool.false_ne_true | skip
    rename_i id p
    match xs, kw, hm with
    | [], _, hm => exact absurd hm Bool.false_ne_true
    | _ :: _ :: _, _, hm => simp [mE] at hm
    | [y], _ :: _, hm => simp [mE] at hm
    | [y], [], hm =>
      cases y <;> first | exact absurd hm Bool.false_ne_true | skip
      rename_i fn ys kw pos2
      cases fn <;> first | exact absurd hm Bool.false_ne_true | skip
      rename_i id2 p2
      match ys, kw, hm with
      | [], _, hm => exact absurd hm Bool.false_ne_true
      | _ :: _ :: _, _, hm => simp [mE] at hm
      | [y], _ :: _, hm => simp [mE] at hm
      | [z], [], hm =>
        obtain ⟨h12, h345⟩ := ba hm
        obtain ⟨h1, h2⟩ := ba h12
        obtain ⟨h34, h5⟩ := ba h345
        obtain ⟨h3, h4⟩ := ba h34
        have e := of_decide_eq_true h1
        subst e
        have e := of_decide_eq_true h3
        subst e
        obtain ⟨g1, _⟩ := gl_of g h2
        obtain ⟨g3, _⟩ := gl_of g h4
        refine (pe_listRg g.calm g1 (g.glo.free _ (by simp [bltNames])) (prg_1 g3 (g.glo.free _ (by simp [bltNames])) (sE a X N sc W z g h5) (star_of h5 X.env _))).wk fun σ H Q q => ?_
        obtain ⟨m, l, h, rh, rl, q⟩ := q
        refine tE_in rh rl (fun _ _ z => z) q fun m1 H1 v w h1 e1 k1 rh1 rl1 rv1 q1 => ?_
        obtain ⟨j, rfl, ⟨b1, b2⟩, q1⟩ := q1
        cases (show w = .int j from rv1)
        refine ⟨j, rfl, RgOk.of_le (by omega) (by show j ≤ 16777216; exact b2) (by omega) b1, fun q' hq => ?_⟩
        have kk : Kp M.K H1 (upd H1 q' (.lst (L2.rgV 0 j))) := Kp.upd_new hq
        have rvs : RVs M.K (upd H1 q' (.lst (L2.rgV 0 j))) (m1 ++ [q']) (rangeL 0 j.toNat) (L2.rgV 0 j) := by
          unfold rangeL L2.rgV
          rw [Int.sub_zero]
          exact rvs_ints _
        have rh2 := rh1.new (u := .lst (L2.rgV 0 j)) (o := .lst (rangeL 0 j.toNat)) hq ⟨_, upd_same, rvs⟩ rfl
        exact (LQ.mono e1 k1 _ _ q1) _ _ _ (Ex.app m1 q') kk rh2 ⟨q', by rw [← rh1.len]; simp, rfl⟩
  | .meth o mm es, X, N, sc, W, x, g, hm => by
    cases x <;> first | exact absurd hm Bool.false_ne_true | skip
    rename_i fn xs kw pos
    cases fn <;> first | exact absurd hm Bool.false_ne_true | skip
    rename_i y name p
    cases kw <;> first | exact absurd hm Bool.false_ne_true | skip
    obtain ⟨h123, h456⟩ := ba hm
    obtain ⟨h1, h23⟩ := ba h123
    obtain ⟨h2, h3⟩ := ba h23
    obtain ⟨h4, h56⟩ := ba h456
    obtain ⟨h5, h6⟩ := ba h56
    have e := of_decide_eq_true h1
    subst e
    exact pe_methG g h2 (of_decide_eq_true h3) h4 (sE o X N sc W _ g h5) h6 (sEs es X N sc W _ g h6)
  | .ini c es, X, N, sc, W, x, g, hm => by
    cases x <;> first | exact absurd hm Bool.false_ne_true | skip
    rename_i fn xs kw pos
    cases fn <;> first | exact absurd hm Bool.false_ne_true | skip
    rename_i y name p
    cases y <;> first | exact absurd hm Bool.false_ne_true | skip
    rename_i z pz
    cases kw with
    | cons _ _ => exact absurd hm Bool.false_ne_true
    | nil =>
      cases xs with
      | nil =>
        obtain ⟨_, h2⟩ := ba hm
        obtain ⟨h3, _⟩ := ba h2
        obtain ⟨_, h4⟩ := ba h3
        obtain ⟨_, h5⟩ := ba h4
        exact absurd h5 Bool.false_ne_true
      | cons x0 xs =>
        obtain ⟨h1, h2⟩ := ba hm
        obtain ⟨h3, h4⟩ := ba h1
        obtain ⟨h5, h6⟩ := ba h3
        obtain ⟨h7, h8⟩ := ba h4
        obtain ⟨h9, h10⟩ := ba h2
        obtain ⟨h11, h12⟩ := ba h9
        obtain ⟨h13, _⟩ := ba h12
        have e1 := of_decide_eq_true h6
        have e2 := of_decide_eq_true h8
        subst e1 e2
        unfold iniB at h5
        cases hc : M.toMe.G.cls c with
        | none => rw [hc] at h5; cases h5
        | some cd =>
          rw [hc] at h5
          exact pe_iniG g hc (ba h5).1 (by simpa using (ba h5).2) h7 h11 (of_decide_eq_true h13) h10 (sEs es X N sc W _ g h10)
  | .bm f o es, X, N, sc, W, x, g, hm => by
    cases x <;> first | exact absurd hm Bool.false_ne_true | skip
    rename_i fn xs kw pos
    cases fn <;> first | exact absurd hm Bool.false_ne_true | skip
    rename_i y name p
    cases kw <;> first | exact absurd hm Bool.false_ne_true | skip
    obtain ⟨h123, h456⟩ := ba hm
    obtain ⟨h1, h23⟩ := ba h123
    obtain ⟨h2, h3⟩ := ba h23
    obtain ⟨h4, h56⟩ := ba h456
    obtain ⟨h5, h6⟩ := ba h56
    exact pe_bmM g h1 (of_decide_eq_true h2) h3 h4 (sE o X N sc W _ g h5) h6 (sEs es X N sc W _ g h6)
  | .lc elt t it cond, X, N, sc, W, x, g, hm => by
    cases x <;> first | exact absurd hm Bool.false_ne_true | skip
    rename_i x' gens scope pos
    match gens, hm with
    | [], hm => exact absurd hm Bool.false_ne_true
    | ⟨_, _, _, _⟩ :: ⟨_, _, _, _⟩ :: _, hm => simp [mE] at hm
    | [⟨tg, iter, ifs, ia⟩], hm =>
      obtain ⟨h012, h3456⟩ := ba hm
      obtain ⟨h0, h12⟩ := ba h012
      obtain ⟨h1, h2⟩ := ba h12
      obtain ⟨h3, h456⟩ := ba h3456
      cases (show ia = 0 from beq_iff_eq.mp h0)
      obtain ⟨h4, h56⟩ := ba h456
      obtain ⟨h5, h6⟩ := ba h56
      exact lcp g h1 h2 (sI it X N sc W tg iter g h3) h4 (fun X' W' g' => sOC cond X' N (relB scope sc) W' ifs g' h5) (fun X' W' g' => sE elt X' N (relB scope sc) W' x' g' h6)
theorem sEs : ∀ (e : Es) (X : Cx) (N : List Str) (sc : Sco) (W : WX) (x : List Expr), Good M X N sc W k → mEs M.toMe N sc e x = true → PA X x (tA M W fun Y => evEs M.G (callS M.G k) Y e)
  | .nil, X, N, sc, W, [], g, hm => pa_nil.wk fun σ H Q ⟨m, l, h, rh, rl, q⟩ => q m H [] (Ex.refl m) (Kp.refl _ H) rh rfl
  | .nil, X, N, sc, W, _ :: _, g, hm => absurd hm Bool.false_ne_true
  | .cons _ _, X, N, sc, W, [], g, hm => absurd hm Bool.false_ne_true
  | .cons e es, X, N, sc, W, x :: xs, g, hm => by
    obtain ⟨h1, h2⟩ := ba hm
    refine (pa_cons (sE e X N sc W _ g h1) (sEs es X N sc W _ g h2) (star_of h1 X.env xs)).wk fun σ H Q q => ?_
    obtain ⟨m, l, h, rh, rl, q⟩ := q
    refine tE_in rh rl (fun _ _ z => z) q fun m1 H1 v w h1 e1 k1 rh1 rl1 rv1 q1 => ?_
    refine tA_in rh1 rl1 (LX.mono e1 k1) q1 fun m2 H2 u w2 h2 e2 k2 rh2 rl2 rv2 q2 => ?_
    exact q2 m2 H2 _ (e1.trans e2) (k1.trans k2) rh2 ⟨w, w2, rfl, rv1.mono k2 e2, rv2⟩
theorem sPs : ∀ (e : Es) (X : Cx) (N : List Str) (sc : Sco) (W : WX) (pos : Pos) (x : List Expr) (ks : List Str) (keys : List (Option Expr)), Good M X N sc W k → mPs M.toMe N sc ks e keys x = true →
    ∃ trs, PPs X pos keys x trs ∧ ∀ σ H R, (∃ m l h, RH M H m h ∧ RL M.K H m l σ ∧ evEs M.G (callS M.G k) (LX M W σ m H) e l h (LKs M m H ks R)) → tPairs trs σ H R
  | .nil, X, N, sc, W, pos, x, ks, keys, g, hm => by
    cases ks <;> cases keys <;> cases x <;> first | exact absurd hm Bool.false_ne_true | skip
    exact ⟨[], pps_nil, fun σ H R ⟨m, l, h, rh, rl, q⟩ => q m H [] (Ex.refl m) (Kp.refl _ H) rh rfl⟩
  | .cons e es, X, N, sc, W, pos, x, ks, keys, g, hm => by
    cases ks with
    | nil => exact absurd hm Bool.false_ne_true
    | cons k0 ks =>
    cases keys with
    | nil => exact absurd hm Bool.false_ne_true
    | cons ko keys =>
    cases ko with
    | none => exact absurd hm Bool.false_ne_true
    | some ke =>
    cases ke <;> first | exact absurd hm Bool.false_ne_true | skip
    rename_i cst kk p2
    cases cst <;> first | exact absurd hm Bool.false_ne_true | skip
    cases x with
    | nil => exact absurd hm Bool.false_ne_true
    | cons y ys =>
    obtain ⟨h12, h3⟩ := ba hm
    obtain ⟨h1, h2⟩ := ba h12
    have e1 := of_decide_eq_true h1
    subst e1
    obtain ⟨trs, hp, ht⟩ := sPs es X N sc W pos ys ks keys g h3
    refine ⟨_, pps_cons pe_str (sE e X N sc W y g h2) hp, fun σ H R ⟨m, l, h, rh, rl, q⟩ => ?_⟩
    show tE M W (fun Y => evE M.G (callS M.G k) Y e) σ H fun y' H1 => tPairs trs σ H1 fun ps H2 => R ((.str k0, y') :: ps) H2
    refine tE_in rh rl (fun _ _ z => z) q fun m1 H1 v w h1 e1 k1 rh1 rl1 rv1 q1 => ?_
    exact ht σ H1 _ ⟨m1, l, h1, rh1, rl1, evEs_mono (csle M k) (LX.mono e1 k1) es _ _ _ _ (fun vs h2 q2 m2 H2 ws e2 k2 rh2 rv2 => q2 m2 H2 (w :: ws) (e1.trans e2) (k1.trans k2) rh2 ⟨w, ws, rfl, rv1.mono k2 e2, rv2⟩) q1⟩
theorem sO : ∀ (e : OE) (X : Cx) (N : List Str) (sc : Sco) (W : WX) (x : Option Expr), Good M X N sc W k → mO M.toMe N sc e x = true → L2.PO X x (tOp M W fun Y => evO M.G (callS M.G k) Y e)
  | .no, X, N, sc, W, none, g, hm => (po_none (X := X)).wk fun σ H Q ⟨m, l, h, rh, rl, q⟩ => q m H (Ex.refl m) (Kp.refl _ H) rh
  | .no, X, N, sc, W, some _, g, hm => absurd hm Bool.false_ne_true
  | .so _, X, N, sc, W, none, g, hm => absurd hm Bool.false_ne_true
  | .so e, X, N, sc, W, some x, g, hm => by
    refine (po_some (sE e X N sc W _ g hm)).wk fun σ H Q q => ?_
    obtain ⟨m, l, h, rh, rl, q⟩ := q
    refine tE_in rh rl (fun _ _ z => z) q fun m1 H1 v w h1 e1 k1 rh1 rl1 rv1 q1 => ?_
    obtain ⟨i, rfl, q1⟩ := q1
    exact ⟨i, rv1, q1 m1 H1 e1 k1 rh1⟩
theorem sT : ∀ (e : C) (X : Cx) (N : List Str) (sc : Sco) (W : WX) (x : Expr), Good M X N sc W k → mC M.toMe N sc e x = true → PT X x (tT M W fun Y => evT M.G (callS M.G k) Y e) ∧ ((∃ op ys p, x = .BoolOp op ys p) → PW X x (tT M W fun Y => evT M.G (callS M.G k) Y e))
  | .v e, X, N, sc, W, x, g, hm => by
    have he := isTrue_of (env := X.env) hm
    refine ⟨?_, fun ⟨op, ys, p, e⟩ => by subst e; exact absurd (ba hm).2 Bool.false_ne_true⟩
    refine (pt_truth (sE e X N sc W _ g (ba hm).1) he).wk fun σ H Q q => ?_
    obtain ⟨m, l, h, rh, rl, q⟩ := q
    refine tE_in rh rl (fun _ _ z => z) q fun m1 H1 v w h1 e1 k1 rh1 rl1 rv1 q1 => ?_
    obtain ⟨b, e, q1⟩ := q1
    refine ⟨b, ?_, q1 m1 H1 e1 k1 rh1⟩
    rw [g.hK]
    exact truV_of rh1 rv1 e
  | .cmp o a b, X, N, sc, W, x, g, hm => by
    cases x <;> first | exact absurd hm Bool.false_ne_true | skip
    rename_i y ops zs pos
    match ops, zs, hm with
    | [], _, hm => exact absurd hm Bool.false_ne_true
    | [_], [], hm => exact absurd hm Bool.false_ne_true
    | [_], _ :: _ :: _, hm => exact absurd hm Bool.false_ne_true
    | _ :: _ :: _, _, hm => exact absurd hm Bool.false_ne_true
    | [p], [z], hm =>
      obtain ⟨h123, h4⟩ := ba hm
      obtain ⟨h12, h3⟩ := ba h123
      obtain ⟨h1, h2⟩ := ba h12
      have e := of_decide_eq_true h1
      subst e
      refine ⟨?_, fun ⟨op, ys, p, e⟩ => nomatch e⟩
      refine (pt_cmpR (sC g.hK (by have := g.room.un; omega) o) (sE a X N sc W _ g h3) (sE b X N sc W _ g h4) (nb h2)).wk fun σ H Q q => ?_
      obtain ⟨m, l, h, rh, rl, q⟩ := q
      refine tE_in rh rl (fun _ _ z => z) q fun m1 H1 v w h1 e1 k1 rh1 rl1 rv1 q1 => ?_
      refine tE_in rh1 rl1 (LX.mono e1 k1) q1 fun m2 H2 u w2 h2 e2 k2 rh2 rl2 rv2 q2 => ?_
      refine ⟨m2, h2, v, u, rh2, rv1.mono k2 e2, rv2, cmpV_mono (fun r h3 q3 m3 H3 e3 k3 rh3 => ?_) q2⟩
      exact ⟨r, rfl, q3 m3 H3 ((e1.trans e2).trans e3) ((k1.trans k2).trans k3) rh3⟩
  | .chain o o' a b c, X, N, sc, W, x, g, hm => by
    cases x <;> first | exact absurd hm Bool.false_ne_true | skip
    rename_i y ops zs pos
    match ops, zs, hm with
    | [], _, hm => exact absurd hm Bool.false_ne_true
    | [_], _, hm => exact absurd hm Bool.false_ne_true
    | _ :: _ :: _ :: _, _, hm => exact absurd hm Bool.false_ne_true
    | [_, _], [], hm => exact absurd hm Bool.false_ne_true
    | [_, _], [_], hm => exact absurd hm Bool.false_ne_true
    | [_, _], _ :: _ :: _ :: _, hm => exact absurd hm Bool.false_ne_true
    | [p, p'], [z, z'], hm =>
      obtain ⟨h12345, h6⟩ := ba hm
      obtain ⟨h1234, h5⟩ := ba h12345
      obtain ⟨h123, h4⟩ := ba h1234
      obtain ⟨h12, h3⟩ := ba h123
      obtain ⟨h1, h2⟩ := ba h12
      have e := of_decide_eq_true h1
      have e' := of_decide_eq_true h2
      subst e; subst e'
      refine ⟨?_, fun ⟨op, ys, p, e⟩ => nomatch e⟩
      refine (pt_chain (sC g.hK (by have := g.room.un; omega) o) (sC g.hK (by have := g.room.un; omega) o') (sE a X N sc W _ g h4) (sE b X N sc W _ g h5) (sE c X N sc W _ g h6) (nb h3)).wk fun σ H Q q => ?_
      obtain ⟨m, l, h, rh, rl, q⟩ := q
      refine tE_in rh rl (fun _ _ z => z) q fun m1 H1 v w h1 e1 k1 rh1 rl1 rv1 q1 => ?_
      refine tE_in rh1 rl1 (LX.mono e1 k1) q1 fun m2 H2 u w2 h2 e2 k2 rh2 rl2 rv2 q2 => ?_
      refine ⟨m2, h2, v, u, rh2, rv1.mono k2 e2, rv2, cmpV_mono (fun r h3 q3 m3 H3 e3 k3 rh3 => ?_) q2⟩
      refine ⟨r, rfl, ?_⟩
      have e13 := (e1.trans e2).trans e3
      have k13 := (k1.trans k2).trans k3
      cases r with
      | false => exact ⟨false, rfl, q3 m3 H3 e13 k13 rh3⟩
      | true =>
        refine tE_in rh3 (rl2.mono k3 e3) (LX.mono e13 k13) q3 fun m4 H4 u4 w4 h4 e4 k4 rh4 rl4 rv4 q4 => ?_
        refine ⟨m4, h4, u, u4, rh4, rv2.mono (k3.trans k4) (e3.trans e4), rv4, cmpV_mono (fun r h5 q5 m5 H5 e5 k5 rh5 => ?_) q4⟩
        exact ⟨r, rfl, q5 m5 H5 ((e13.trans e4).trans e5) ((k13.trans k4).trans k5) rh5⟩
  | .nt a, X, N, sc, W, x, g, hm => by
    cases x <;> first | exact absurd hm Bool.false_ne_true | skip
    rename_i op y pos
    cases op <;> first | exact absurd hm Bool.false_ne_true | skip
    refine ⟨?_, fun ⟨op, ys, p, e⟩ => nomatch e⟩
    refine (pt_not (sT a X N sc W _ g hm).1).wk fun σ H Q q => ?_
    obtain ⟨m, l, h, rh, rl, q⟩ := q
    exact tT_in rh rl (fun _ _ z => z) q fun m1 H1 r h1 e1 k1 rh1 rl1 q1 => q1 m1 H1 e1 k1 rh1
  | .and a b, X, N, sc, W, x, g, hm => by
    cases x <;> first | exact absurd hm Bool.false_ne_true | skip
    rename_i op xs pos
    cases op <;> first | exact absurd hm Bool.false_ne_true | skip
    match xs, hm with
    | [], hm => exact absurd hm Bool.false_ne_true
    | [_], hm => exact absurd hm Bool.false_ne_true
    | y :: z :: r, hm =>
      obtain ⟨h1, h2⟩ := ba hm
      have hb : PW X (.BoolOp .And (z :: r) pos) (tT M W fun Y => evT M.G (callS M.G k) Y b) := by
        cases r with
        | nil => exact pw_and1 (sT b X N sc W _ g h2).1
        | cons z' r' => exact (sT b X N sc W _ g h2).2 ⟨_, _, _, rfl⟩
      have hw : PW X (.BoolOp .And (y :: z :: r) pos) (tT M W fun Y => evT M.G (callS M.G k) Y (.and a b)) := by
        refine (pw_and (sT a X N sc W _ g h1).1 hb).wk fun σ H Q q => ?_
        obtain ⟨m, l, h, rh, rl, q⟩ := q
        refine tT_in rh rl (fun _ _ z => z) q fun m1 H1 r h1 e1 k1 rh1 rl1 q1 => ?_
        cases r with
        | true => exact tT_in rh1 rl1 (LX.mono e1 k1) q1 fun m2 H2 r h2 e2 k2 rh2 rl2 q2 => q2 m2 H2 (e1.trans e2) (k1.trans k2) rh2
        | false => exact q1 m1 H1 e1 k1 rh1
      exact ⟨hw.pt, fun _ => hw⟩
  | .or a b, X, N, sc, W, x, g, hm => by
    cases x <;> first | exact absurd hm Bool.false_ne_true | skip
    rename_i op xs pos
    cases op <;> first | exact absurd hm Bool.false_ne_true | skip
    match xs, hm with
    | [], hm => exact absurd hm Bool.false_ne_true
    | [_], hm => exact absurd hm Bool.false_ne_true
    | y :: z :: r, hm =>
      obtain ⟨h1, h2⟩ := ba hm
      have hb : PW X (.BoolOp .Or (z :: r) pos) (tT M W fun Y => evT M.G (callS M.G k) Y b) := by
        cases r with
        | nil => exact pw_or1 (sT b X N sc W _ g h2).1
        | cons z' r' => exact (sT b X N sc W _ g h2).2 ⟨_, _, _, rfl⟩
      have hw : PW X (.BoolOp .Or (y :: z :: r) pos) (tT M W fun Y => evT M.G (callS M.G k) Y (.or a b)) := by
        refine (pw_or (sT a X N sc W _ g h1).1 hb).wk fun σ H Q q => ?_
        obtain ⟨m, l, h, rh, rl, q⟩ := q
        refine tT_in rh rl (fun _ _ z => z) q fun m1 H1 r h1 e1 k1 rh1 rl1 q1 => ?_
        cases r with
        | false => exact tT_in rh1 rl1 (LX.mono e1 k1) q1 fun m2 H2 r h2 e2 k2 rh2 rl2 q2 => q2 m2 H2 (e1.trans e2) (k1.trans k2) rh2
        | true => exact q1 m1 H1 e1 k1 rh1
      exact ⟨hw.pt, fun _ => hw⟩
theorem sOC : ∀ (e : OC) (X : Cx) (N : List Str) (sc : Sco) (W : WX) (x : List Expr), Good M X N sc W k → mOC M.toMe N sc e x = true → PTs X x (tT M W fun Y => evC M.G (callS M.G k) Y e)
  | .no, X, N, sc, W, [], g, hm => pts_wk pts_nil fun σ H Q ⟨m, l, h, rh, rl, q⟩ => q m H (Ex.refl m) (Kp.refl _ H) rh
  | .no, X, N, sc, W, _ :: _, g, hm => absurd hm Bool.false_ne_true
  | .so _, X, N, sc, W, [], g, hm => absurd hm Bool.false_ne_true
  | .so _, X, N, sc, W, _ :: _ :: _, g, hm => absurd hm Bool.false_ne_true
  | .so e, X, N, sc, W, [x], g, hm => pts_wk (pts_one (sT e X N sc W x g hm).1) fun σ H Q q => q
theorem sI : ∀ (it : I) (X : Cx) (N : List Str) (sc : Sco) (W : WX) (tg x : Expr), Good M X N sc W k → mI M.toMe N sc tg it x = true → PI X tg x (tI M W fun Y => evI M.G (callS M.G k) Y it) ∧ notSet x = true
  | .seq a, X, N, sc, W, tg, x, g, hm => by
    obtain ⟨h1, h2⟩ := ba hm
    exact ⟨pi_seq g (sE a X N sc W x g h1), h2⟩
  | .keys a, X, N, sc, W, tg, x, g, hm => by
    obtain ⟨h1, h2⟩ := ba hm
    exact ⟨pi_keysG (sE a X N sc W x g h1), h2⟩
  | .rng1 a, X, N, sc, W, tg, x, g, hm => by
    cases x <;> first | exact absurd hm Bool.false_ne_true | skip
    rename_i fn xs kw pos
    cases fn <;> first | exact absurd hm Bool.false_ne_true | skip
    rename_i id p
    match xs, kw, hm with
    | [], _, hm => exact absurd hm Bool.false_ne_true
    | _ :: _ :: _, _, hm => simp [mI] at hm
    | [_], _ :: _, hm => simp [mI] at hm
    | [y], [], hm =>
      obtain ⟨h12, h3⟩ := ba hm
      obtain ⟨h1, h2⟩ := ba h12
      have e := of_decide_eq_true h1
      subst e
      obtain ⟨g1, g2⟩ := gl_of g h2
      refine ⟨(pi_range1 g1 (g.glo.free _ (blt_in (.inl rfl))) (pa_cons (sE a X N sc W y g h3) pa_nil (star_of h3 X.env _)) (star_of h3 X.env _)).wk fun σ H R q => ?_, rfl⟩
      obtain ⟨m, l, h, rh, rl, q⟩ := q
      refine tE_in rh rl (fun _ _ z => z) q fun m1 H1 v w h1 e1 k1 rh1 rl1 rv1 q1 => ?_
      obtain ⟨j, rfl, q2, q3⟩ := q1
      cases (show w = .int j from rv1)
      exact ⟨j, rfl, q2.1, q2.2, q3 m1 H1 _ e1 k1 rh1 wk_range⟩
  | .rng2 a b, X, N, sc, W, tg, x, g, hm => by
    cases x <;> first | exact absurd hm Bool.false_ne_true | skip
    rename_i fn xs kw pos
    cases fn <;> first | exact absurd hm Bool.false_ne_true | skip
    rename_i id p
    match xs, kw, hm with
    | [], _, hm => exact absurd hm Bool.false_ne_true
    | [_], _, hm => exact absurd hm Bool.false_ne_true
    | _ :: _ :: _ :: _, _, hm => simp [mI] at hm
    | [_, _], _ :: _, hm => simp [mI] at hm
    | [y, z], [], hm =>
      obtain ⟨h12, h34⟩ := ba hm
      obtain ⟨h1, h2⟩ := ba h12
      obtain ⟨h3, h4⟩ := ba h34
      have e := of_decide_eq_true h1
      subst e
      obtain ⟨g1, g2⟩ := gl_of g h2
      refine ⟨(pi_range2 g1 (g.glo.free _ (blt_in (.inl rfl))) (pa_cons (sE a X N sc W y g h3) (pa_cons (sE b X N sc W z g h4) pa_nil (star_of h4 X.env _)) (star_of h3 X.env _)) (by rw [star_of h3 X.env, star_of h4 X.env] <;> rfl) (star_of h4 X.env _)).wk fun σ H R q => ?_, rfl⟩
      obtain ⟨m, l, h, rh, rl, q⟩ := q
      refine tE_in rh rl (fun _ _ z => z) q fun m1 H1 v w h1 e1 k1 rh1 rl1 rv1 q1 => ?_
      refine tE_in rh1 rl1 (LX.mono e1 k1) q1 fun m2 H2 u w2 h2 e2 k2 rh2 rl2 rv2 q2 => ?_
      obtain ⟨i, j, rfl, rfl, q3, q4⟩ := q2
      cases (show w = .int i from rv1)
      cases (show w2 = .int j from rv2)
      exact ⟨i, j, rfl, q3, q4 m2 H2 _ (e1.trans e2) (k1.trans k2) rh2 wk_range⟩
  | .enu a, X, N, sc, W, tg, x, g, hm => by
    cases x <;> first | exact absurd hm Bool.false_ne_true | skip
    rename_i fn xs kw pos
    cases fn <;> first | exact absurd hm Bool.false_ne_true | skip
    rename_i id p
    match xs, kw, hm with
    | [], _, hm => exact absurd hm Bool.false_ne_true
    | _ :: _ :: _, _, hm => simp [mI] at hm
    | [_], _ :: _, hm => simp [mI] at hm
    | [y], [], hm =>
      obtain ⟨h12, h34⟩ := ba hm
      obtain ⟨h1, h2⟩ := ba h12
      obtain ⟨h3, h4⟩ := ba h34
      have e := of_decide_eq_true h1
      subst e
      obtain ⟨g1, g2⟩ := gl_of g h2
      cases tg <;> first | exact absurd h4 Bool.false_ne_true | skip
      refine ⟨(pi_enum g1 (g.glo.free _ (blt_in (.inr (.inl rfl)))) (pa_cons (sE a X N sc W y g h3) pa_nil (star_of h3 X.env _)) (star_of h3 X.env _)).wk fun σ H R q => ?_, rfl⟩
      obtain ⟨m, l, h, rh, rl, q⟩ := q
      refine tE_in rh rl (fun _ _ z => z) q fun m1 H1 v w h1 e1 k1 rh1 rl1 rv1 q1 => ?_
      obtain ⟨zs, q2, q3⟩ := q1
      obtain ⟨p, vs, rfl, e3, e4⟩ := lstOf_get rh1 rv1 q2
      exact ⟨p, vs, rfl, by rw [g.hK]; exact e3, by rw [g.hK]; exact q3 m1 H1 _ e1 k1 rh1 (wk_enum rv1 (lst_ref q2))⟩
  | .zip2 a b, X, N, sc, W, tg, x, g, hm => by
    cases x <;> first | exact absurd hm Bool.false_ne_true | skip
    rename_i fn xs kw pos
    cases fn <;> first | exact absurd hm Bool.false_ne_true | skip
    rename_i id p
    match xs, kw, hm with
    | [], _, hm => exact absurd hm Bool.false_ne_true
    | [_], _, hm => exact absurd hm Bool.false_ne_true
    | _ :: _ :: _ :: _, _, hm => simp [mI] at hm
    | [_, _], _ :: _, hm => simp [mI] at hm
    | [y, z], [], hm =>
      obtain ⟨h12, h345⟩ := ba hm
      obtain ⟨h1, h2⟩ := ba h12
      obtain ⟨h34, h5⟩ := ba h345
      obtain ⟨h3, h4⟩ := ba h34
      have e := of_decide_eq_true h1
      subst e
      obtain ⟨g1, g2⟩ := gl_of g h2
      cases tg <;> first | exact absurd h5 Bool.false_ne_true | skip
      refine ⟨(pi_zipS g1 (g.glo.free _ (blt_in (.inr (.inr (.inl rfl))))) (pa_cons (sE a X N sc W y g h3) (pa_cons (sE b X N sc W z g h4) pa_nil (star_of h4 X.env _)) (star_of h3 X.env _)) (star_of h3 X.env _) (by rw [star_of h4 X.env] <;> rfl)).wk fun σ H R q => ?_, rfl⟩
      obtain ⟨m, l, h, rh, rl, q⟩ := q
      refine tE_in rh rl (fun _ _ z => z) q fun m1 H1 v w h1 e1 k1 rh1 rl1 rv1 q1 => ?_
      refine tE_in rh1 rl1 (LX.mono e1 k1) q1 fun m2 H2 u w2 h2 e2 k2 rh2 rl2 rv2 q2 => ?_
      obtain ⟨xs, ys, q3, q4, q5⟩ := q2
      have rv1' := rv1.mono k2 e2
      obtain ⟨p', ws, rfl, e5, e6⟩ := lstOf_get rh2 rv2 q4
      cases v with
      | tup zs =>
        cases (show zs = xs from Option.some.inj q3)
        obtain ⟨p, vs, rfl, e3, e4⟩ := rv1'
        exact ⟨p, p', vs, ws, rfl, by rw [g.hK]; exact e5, .inr ⟨by rw [g.hK]; exact e3, by rw [g.hK]; exact q5 m2 H2 _ (e1.trans e2) (k1.trans k2) rh2 (wk_zipM e3 e4 rv2 (lst_ref q4))⟩⟩
      | ref a =>
        obtain ⟨p, vs, rfl, e3, e4⟩ := lstOf_get rh2 rv1' q3
        exact ⟨p, p', vs, ws, rfl, by rw [g.hK]; exact e5, .inl ⟨by rw [g.hK]; exact e3, by rw [g.hK]; exact q5 m2 H2 _ (e1.trans e2) (k1.trans k2) rh2 (wk_zip rv1' (lst_ref q3) rv2 (lst_ref q4))⟩⟩
      | _ => cases q3
  | .rev a, X, N, sc, W, tg, x, g, hm => by
    cases x <;> first | exact absurd hm Bool.false_ne_true | skip
    rename_i fn xs kw pos
    cases fn <;> first | exact absurd hm Bool.false_ne_true | skip
    rename_i id p
    match xs, kw, hm with
    | [], _, hm => exact absurd hm Bool.false_ne_true
    | _ :: _ :: _, _, hm => simp [mI] at hm
    | [_], _ :: _, hm => simp [mI] at hm
    | [y], [], hm =>
      obtain ⟨h12, h3⟩ := ba hm
      obtain ⟨h1, h2⟩ := ba h12
      have e := of_decide_eq_true h1
      subst e
      obtain ⟨g1, g2⟩ := gl_of g h2
      refine ⟨(pi_reversed g1 (g.glo.free _ (blt_in (.inr (.inr (.inr rfl))))) (pa_cons (sE a X N sc W y g h3) pa_nil (star_of h3 X.env _)) (star_of h3 X.env _)).wk fun σ H R q => ?_, rfl⟩
      obtain ⟨m, l, h, rh, rl, q⟩ := q
      refine tE_in rh rl (fun _ _ z => z) q fun m1 H1 v w h1 e1 k1 rh1 rl1 rv1 q1 => ?_
      obtain ⟨zs, q2, q3⟩ := q1
      obtain ⟨p, vs, rfl, e3, e4⟩ := lstOf_get rh1 rv1 q2
      refine ⟨p, vs, rfl, by rw [g.hK]; exact e3, ?_⟩
      rw [g.hK, ← e4.len]
      exact q3 m1 H1 _ e1 k1 rh1 (wk_rev rv1 (lst_ref q2))

end
mutual
theorem sG : ∀ (t : T) (dc : Bool) (X : Cx) (N : List Str) (sc : Sco) (W : WX) (Y : KX) (x : Expr), Good M X N sc W k → (dc = true → ∀ x, sc.lookup x = some .cell → X.fn x = true) → mT M.toMe dc N sc t x = true → PG X x (tG M fun v => evG M.G (callS M.G k) Y t v)
  | .nm i, dc, X, N, sc, W, Y, x, g, hc, hm => by
    cases x <;> first | exact absurd hm Bool.false_ne_true | skip
    obtain ⟨h1, h2⟩ := ba hm
    obtain ⟨l1, l2⟩ := loc_of g hc h2
    refine (pg_name (i := i) (by rw [g.hN]; exact g.nd) (by rw [g.hN]; exact of_decide_eq_true h1) l1 l2).wk fun w σ H Q q => ?_
    obtain ⟨m, l, h, v, rh, rl, rv, q⟩ := q
    exact q.2 m H _ (Ex.refl m) (Kp.refl _ H) rh (rl.set rv)
  | .tup ts, dc, X, N, sc, W, Y, x, g, hc, hm => by
    cases x <;> first | exact absurd hm Bool.false_ne_true | skip
    rename_i xs kk pos
    have hm : mTs M.toMe dc N sc ts xs = true := hm
    obtain ⟨a1, a2⟩ := as_len X.env hm
    refine (pg_two (n := xs.length) g.calm (sGs ts dc X N sc W Y xs g hc hm) a1 a2).wk fun w σ H Q q => ?_
    obtain ⟨m, l, h, v, rh, rl, rv, vs, es, el, q⟩ := q
    cases v with
    | tup zs =>
      cases (show zs = vs from Option.some.inj es)
      obtain ⟨p, ws, rfl, e1, e2⟩ := rv
      exact .inl ⟨p, ws, rfl, by rw [g.hK]; exact e1, by rw [← e2.len, el]; exact lenTs_of hm, m, l, h, _, rh, rl, e2, q⟩
    | ref a =>
      obtain ⟨p, ws, rfl, e1, e2⟩ := lstOf_get rh rv es
      exact .inr ⟨p, ws, rfl, by rw [g.hK]; exact e1, by rw [← e2.len, el]; exact lenTs_of hm, m, l, h, _, rh, rl, e2, q⟩
    | _ => cases es
  | .attr _ _, dc, X, N, sc, W, Y, x, g, hc, hm => absurd hm (by cases x <;> exact Bool.false_ne_true)
  | .sub _ _, dc, X, N, sc, W, Y, x, g, hc, hm => absurd hm (by cases x <;> exact Bool.false_ne_true)
theorem sGs : ∀ (ts : Ts) (dc : Bool) (X : Cx) (N : List Str) (sc : Sco) (W : WX) (Y : KX) (xs : List Expr), Good M X N sc W k → (dc = true → ∀ x, sc.lookup x = some .cell → X.fn x = true) → mTs M.toMe dc N sc ts xs = true → PGs X xs (tGs M fun v => evGs M.G (callS M.G k) Y ts v)
  | .nil, dc, X, N, sc, W, Y, [], g, hc, hm => pgs_nil.wk fun w σ H Q q => by
    obtain ⟨m, l, h, v, rh, rl, rv, e, q⟩ := q
    subst e
    exact ⟨rv, q m H σ (Ex.refl m) (Kp.refl _ H) rh rl⟩
  | .nil, dc, X, N, sc, W, Y, _ :: _, g, hc, hm => absurd hm Bool.false_ne_true
  | .cons _ _, dc, X, N, sc, W, Y, [], g, hc, hm => absurd hm Bool.false_ne_true
  | .cons t ts, dc, X, N, sc, W, Y, x :: xs, g, hc, hm => by
    obtain ⟨h1, h2⟩ := ba hm
    refine (pgs_cons (sG t dc X N sc W Y x g hc h1) (sGs ts dc X N sc W Y xs g hc h2) (by rw [as_each h1 X.env] <;> rfl)).wk fun w σ H Q q => ?_
    obtain ⟨m, l, h, v, rh, rl, rv, y, r, e, q⟩ := q
    subst e
    obtain ⟨w1, wr, rfl, r1, r2⟩ := rv
    refine ⟨w1, wr, rfl, m, l, h, y, rh, rl, r1, evG_mono (csle M k) (fun _ _ z => z) t y l h _ _ (fun l1 h1 q1 m1 H1 σ1 e1 k1 rh1 rl1 => ?_) q⟩
    exact ⟨m1, l1, h1, r, rh1, rl1, r2.mono k1 e1, evGs_mono (csle M k) (fun _ _ z => z) ts r l1 h1 _ _ (fun l2 h2 => LG.mono e1 k1 l2 h2) q1⟩
end
end
end Py

set_option Elab.async false
set_option linter.all false
set_option maxRecDepth 100000
set_option maxHeartbeats 4000000
/-! PySound6: statements. -/
namespace Py
open PySem PySem.Spec PyProof.Rows L2
def tupTup : Expr → Expr → Bool
  | .Tuple ts _ _, .Tuple .. => ts.length == 2 || ts.length == 3
  | .List .., .Tuple .. => true
  | _, _ => false
def isStarB : Expr → Bool
  | .Starred .. => true
  | _ => false
def parT : T → Bool
  | .tup (.cons (.nm i) (.cons (.nm j) .nil)) => !(i == j)
  | _ => false
def notComp : Expr → Bool
  | .ListComp .. => false
  | .SetComp .. => false
  | .DictComp .. => false
  | _ => true
/-- x, y = a, b: two stores in turn -/
def parB (sc : Sco) : Expr → Expr → Bool
  | .Tuple [.Name x p, .Name y q] _ _, .Tuple [a, b] _ _ => ((sc.lookup x == some .local && sc.lookup y == some .local) && (p.line == q.line && !(x == y))) && (!(foldedForSure 8 a && foldedForSure 8 b) && (!(constantsAlone 8 a && constantsAlone 8 b) && (!(isStarB a) && !(isStarB b))))
  | _, _ => false
def isLC : Expr → Bool
  | .ListComp .. => true
  | _ => false
/-- x = [..] that is handed over before the block is left -/
def swB (sc : Sco) (x y : Expr) : Bool := match x, y with
  | .Name t pos, .ListComp _ _ scope p => sc.lookup t == some .local && pos.line == p.line && !(scope.names.any fun (n, k) => n == t && (k == .local || k == .cell))
  | _, _ => false
def noW : E → Bool
  | .lke _ => false
  | .co _ => false
  | _ => true
mutual
def mS (M : Me) (dc : Bool) (N : List Str) (sc : Sco) : S → Stmt → Bool
  | .asg (.attr o f) e, .Assign [.Attribute x y _] z _ => decide (M.nm f = y) && (mE M N sc o x && (mE M N sc e z && (notComp z || isLC z)))
  | .asg (.sub o i) e, .Assign [.Subscript x y _] z _ => mE M N sc o x && (mE M N sc i y && (mE M N sc e z && (notComp z || isLC z)))
  | .asg t e, .Assign [x] y _ => (mT M dc N sc t x && mE M N sc e y) && ((!tupTup x y || (parB sc x y && parT t)) && ((notComp y || isLC y) && noW e))
  | .augF ob f o e, .AugAssign (.Attribute x y _) p z _ => decide (M.nm f = y) && (mE M N sc ob x && (bopB o p && mE M N sc e z))
  | .aug i o e, .AugAssign (.Name x _) p y _ => (decide (N[i]? = some x) && locB dc sc x) && (bopB o p && mE M N sc e y)
  | .exp e, .Expr y _ => mE M N sc e y && notComp y
  | .ret e, .Return (some y) _ => mE M N sc e y
  | .retN, .Return none _ => true
  | .ife c a b, .If x xs ys _ => mC M N sc c x && (mB M dc N sc a xs && mB M dc N sc b ys)
  | .for t it b, .For tg x xs [] _ => (mI M N sc tg it x && mT M dc N sc t tg) && mB M dc N sc b xs
  | .whl c b, .While x xs [] _ => mC M N sc c x && mB M dc N sc b xs
  | .pas, .Pass _ => true
  | .cont, .Continue _ => true
  | .rai0, .Raise _ _ _ => true
  | .rais _ _, .Raise _ _ _ => true
  | .lks s, x => mS M dc N sc s x
  | .augD ob ix o e, .AugAssign (.Subscript x y _) p z _ => mE M N sc ob x && (mE M N sc ix y && (bopB o p && mE M N sc e z))
  | _, _ => false
def mB (M : Me) (dc : Bool) (N : List Str) (sc : Sco) : B → List Stmt → Bool
  | .nil, [] => true
  | .cons s b, x :: xs => mS M dc N sc s x && mB M dc N sc b xs
  | _, _ => false
end
def LN (M : Mo) (W : WX) (m : List Addr) (H : Hp) (D : Ends) : En where
  nx := LG M m H D.nx
  rt := LQ M m H D.rt
  ct := LG M m H D.ct
  ex := fun x l' h' => ∀ (m' : List Addr) (H' : Hp) (σ' : L2.St) (cls : Value) (d : Option Addr), Ex m m' → Kp M.K H H' → RH M H' m' h' → RL M.K H' m' l' σ' → RX M H' m' x cls d → W cls d σ' H'
theorem LN.le {M : Mo} {W : WX} {m m1 : List Addr} {H H1 : Hp} {D : Ends} (e : Ex m m1) (k : Kp M.K H H1) : Enle (LN M W m H D) (LN M W m1 H1 D) :=
  ⟨LG.mono e k, LQ.mono e k, LG.mono e k, fun x l h q m' H' σ' c d e' k' r rl rx => q m' H' σ' c d (e.trans e') (k.trans k') r rl rx⟩
theorem LN.ex_ {M : Mo} {W : WX} {m m1 : List Addr} {H H1 : Hp} {D : Ends} {l : Py.Loc} {σ : L2.St} (e : Ex m m1) (k : Kp M.K H H1) (rl : RL M.K H1 m1 l σ) : ∀ x h, (LN M W m H D).ex x l h → LX M W σ m1 H1 x h :=
  fun x h q m' H' c d e' k' r rx => q m' H' σ c d (e.trans e') (k.trans k') r (rl.mono k' e') rx
abbrev DS := Py.Loc → PH → En → Prop
def tS (M : Mo) (W : WX) (d : DS) : TS := fun D σ H => ∃ m l h, RH M H m h ∧ RL M.K H m l σ ∧ d l h (LN M W m H D)
structure GoodS (M : Mo) (X : Cx) (N : List Str) (sc : Sco) (W : WX) (k : Nat) (dc : Bool) : Prop where
  g : Good M X N sc W k
  pas : PassesOwn (model X.prog X.w) X.A X.env X.xe
  cel : dc = true → ∀ x, sc.lookup x = some .cell → X.fn x = true
theorem notComp_sw {y : Expr} {t : Option Expr} {n : Nat} {env : Env} (h : notComp y = true) : swapsWith y t n env = pure false := by
  cases y <;> first | rfl | exact absurd h Bool.false_ne_true
theorem sw_swB {x y : Expr} {n : Nat} {env : Env} (h : (notComp y || isLC y) = true) (hk : env.blockKind = .function) : swapsWith y (some x) n env = pure (swB env.scope.names x y) := by
  cases y with
  | ListComp e gs scope p =>
    cases x with
    | Name t pos =>
      show (pure _ : Sem Bool) = _
      have e1 : (env.blockKind == ScopeKind.function) = true := by rw [hk]; rfl
      simp only [swB, e1, Bool.true_and]
      rfl
    | _ => rfl
  | SetComp e gs scope p => exact absurd h Bool.false_ne_true
  | DictComp e e' gs scope p => exact absurd h Bool.false_ne_true
  | _ => cases x <;> rfl
theorem sw_none {x y : Expr} {env : Env} (h : tupTup x y = false) : swappedStores [x] y env = pure none := by
  cases x with
  | Tuple ts k p =>
    cases y with
    | Tuple vs k2 p2 =>
      have h : (ts.length == 2 || ts.length == 3) = false := h
      unfold swappedStores
      dsimp only
      rw [h]
      rfl
    | _ => rfl
  | List ts p =>
    cases y with
    | Tuple vs k2 p2 => cases h
    | _ => rfl
  | _ => rfl
theorem sw_par {x y : Str} {p q pt pt2 : Pos} {a b : Expr} {kt k2 : Nat} {env : Env} (h : parB env.scope.names (.Tuple [.Name x p, .Name y q] kt pt) (.Tuple [a, b] k2 pt2) = true) (hk : env.blockKind = .function) :
    swappedStores [.Tuple [.Name x p, .Name y q] kt pt] (.Tuple [a, b] k2 pt2) env = pure (some [x, y]) := by
  obtain ⟨h12, h3⟩ := ba h
  obtain ⟨h1, h2⟩ := ba h12
  obtain ⟨l1, l2⟩ := ba h1
  obtain ⟨n1, n2⟩ := ba h2
  obtain ⟨f1, f2⟩ := ba h3
  obtain ⟨c1, s12⟩ := ba f2
  obtain ⟨s1, s2⟩ := ba s12
  have l1' : (env.kindOf x == some .local) = true := l1
  have l2' : (env.kindOf y == some .local) = true := l2
  have eq1 : p.line = q.line := beq_iff_eq.mp n1
  have ne : (x == y) = false := nb n2
  have ne2 : (y == x) = false := by
    rw [beq_eq_false_iff_ne] at ne ⊢
    exact Ne.symm ne
  have st : ∀ f : Expr → Bool, (∀ e, f e = isStarB e) → [a, b].any f = false := fun f hf => by
    show (f a || (f b || false)) = false
    rw [hf, hf, nb s1, nb s2]; rfl
  have ff : [a, b].all (foldedForSure 8) = false := by
    show (foldedForSure 8 a && (foldedForSure 8 b && true)) = false
    rw [Bool.and_true]; exact nb f1
  have cc : [a, b].all (constantsAlone 8) = false := by
    show (constantsAlone 8 a && (constantsAlone 8 b && true)) = false
    rw [Bool.and_true]; exact nb c1
  have bk : (env.blockKind != .function) = false := by rw [hk]; rfl
  have fm : ∀ f : Expr → Option Str, f (.Name x p) = some x → f (.Name y q) = some y → [Expr.Name x p, .Name y q].filterMap f = [x, y] := fun f e1 e2 => by
    simp only [List.filterMap_cons, e1, e2, List.filterMap_nil]
  have dd : ([x, y].eraseDups.length != [x, y].length) = false := by
    have : [x, y].eraseDups = [x, y] := by simp [List.eraseDups, List.eraseDupsBy, List.eraseDupsBy.loop, ne2, ne]
    rw [this]; rfl
  have q1 : (env.kindOf x == some .local && p.line == p.line) = true := by rw [l1', beq_self_eq_true]; rfl
  have q2 : (env.kindOf y == some .local && q.line == p.line) = true := by rw [l2', ← eq1, beq_self_eq_true]; rfl
  unfold swappedStores
  dsimp only
  rw [bk]
  simp only [List.length_cons, List.length_nil, Nat.reduceAdd, beq_self_eq_true, Bool.true_or, Bool.not_true, bne_self_eq_false, Bool.or_false, Bool.false_eq_true, if_false, pure_bind]
  rw [st _ (fun e => by cases e <;> rfl), fm _ (if_pos q1) (if_pos q2), dd, ff, cc]
  rfl
section
variable {M : Mo} {k : Nat}
theorem bk_of {X : Cx} {N : List Str} {sc : Sco} {W : WX} (g : Good M X N sc W k) : X.env.blockKind = .function := by unfold Env.blockKind; rw [g.kd]; rfl
/-- name = [..], handed over -/
theorem asg_lc {X : Cx} {N : List Str} {sc : Sco} {W : WX} {dc : Bool} (g : GoodS M X N sc W k dc) {t : T} {e : E} {z y : Expr} {pos : Pos} (he : PE X y (tE M W fun Y => evE M.G (callS M.G k) Y e)) (h1 : mT M.toMe dc N sc t z = true) (h2 : mE M.toMe N sc e y = true)
    (h4 : (notComp y || isLC y) = true) (hnw : noW e = true) (hsw : swB sc z y = true) : PS X (.Assign [z] y pos) (tS M W fun l h D => evS M.G (callS M.G k) (.asg t e) l h D) := by
  cases z with
  | Name nm py =>
    cases y with
    | ListComp x' gens scope p =>
      cases t <;> first | exact absurd h1 Bool.false_ne_true | skip
      rename_i i
      cases e <;> first | exact absurd h2 Bool.false_ne_true | exact absurd hnw Bool.false_ne_true | (rename_i f a; cases a <;> exact absurd h2 Bool.false_ne_true) | skip
      rename_i elt t' it cond
      match gens, h2, he, hsw, h4 with
      | [], h2, he, hsw, h4 => exact absurd h2 Bool.false_ne_true
      | ⟨_, _, _, _⟩ :: ⟨_, _, _, _⟩ :: _, h2, he, hsw, h4 => simp [mE] at h2
      | [⟨tg, iter, ifs, ia⟩], h2, he, hsw, h4 =>
        obtain ⟨h012, h3456⟩ := ba h2
        obtain ⟨h0, h12⟩ := ba h012
        obtain ⟨t1, t2⟩ := ba h12
        obtain ⟨t3, h456⟩ := ba h3456
        obtain ⟨t4, h56⟩ := ba h456
        obtain ⟨t5, t6⟩ := ba h56
        cases (show ia = 0 from beq_iff_eq.mp h0)
        obtain ⟨n1, n2⟩ := ba h1
        have ok := blk_ok g.g t2
        have kd : scope.kind = .function := ok.kind
        have hi := sI it X N sc W tg iter g.g t3
        have loc : X.env.scope.names.lookup nm = some .local := by
          rw [g.g.sc]
          obtain ⟨a, _⟩ := ba hsw
          obtain ⟨a, _⟩ := ba a
          exact beq_iff_eq.mp a
        have p := ps_setLc (i := i) (y := nm) (py := py) (spos := pos) (pos := p) (te := tE M (fun _ _ _ _ => False) fun Y => evE M.G (callS M.G k) Y elt) g.g.calm (by rw [g.g.hN]; exact g.g.nd) (by rw [g.g.hN]; exact of_decide_eq_true n1) loc
          (by rw [sw_swB h4 (bk_of g.g), g.g.sc, hsw]) hi.1 ok (fun s H C cl fp => sGn t' _ N (relB scope sc) _ (fun _ _ => False) tg (tNs t') (g.g.blk s H C cl fp kd) t1 (fun _ h => h) t4)
          (fun s H C cl fp => sOC cond _ N (relB scope sc) _ ifs (g.g.blk s H C cl fp kd) t5) (fun s H C cl fp => sE elt _ N (relB scope sc) _ x' (g.g.blk s H C cl fp kd) t6) (Py.fold_of hi.2 X.env)
        rw [own_ix] at p
        refine p.wk fun D σ H q => ?_
        obtain ⟨m, l, h, rh, rl, q⟩ := q
        have q : evE M.G (callS M.G k) (fun x h' => (LN M W m H D).ex x l h') (.lc elt t' it cond) l h fun v h1 => evG M.G (callS M.G k) (fun x h' => (LN M W m H D).ex x l h') (.nm i) v l h1 (LN M W m H D).nx := q
        refine lc_in (W := W) (tE_in rh rl (LN.ex_ (D := D) (Ex.refl m) (Kp.refl _ H) rl) q fun m1 H1 v w h1 e1 k1 rh1 rl1 rv1 q1 => ?_)
        exact q1.2 m1 H1 _ e1 k1 rh1 (rl1.set rv1)
    | _ => exact absurd hsw Bool.false_ne_true
  | _ => cases y <;> exact absurd hsw Bool.false_ne_true
theorem drop_cons {α : Type} {xs : List α} {i : Nat} {x : α} (h : xs[i]? = some x) : xs.drop i = x :: xs.drop (i + 1) := by
  obtain ⟨h1, h2⟩ := List.getElem?_eq_some_iff.mp h
  rw [List.drop_eq_getElem_cons h1, h2]
theorem getN_putN {f g : Nat} {v : PV} : ∀ {fs : List (Nat × PV)}, getN g (putN f v fs) = if g = f then some v else getN g fs
  | [] => by
    show (if f = g then some v else none) = _
    by_cases h : g = f
    · rw [if_pos h, if_pos h.symm]
    · rw [if_neg h, if_neg (Ne.symm h)]; rfl
  | (a, x) :: r => by
    unfold putN
    by_cases ha : a = f
    · rw [if_pos ha]
      subst ha
      show (if a = g then some v else getN g r) = if g = a then some v else (if a = g then some x else getN g r)
      by_cases h : g = a
      · rw [if_pos h, if_pos h.symm]
      · rw [if_neg h, if_neg (Ne.symm h), if_neg (Ne.symm h)]
    · rw [if_neg ha]
      show (if a = g then some x else getN g (putN f v r)) = if g = f then some v else (if a = g then some x else getN g r)
      rw [getN_putN]
      by_cases h : a = g
      · rw [if_pos h, if_pos h, if_neg (fun z => ha (h.trans z))]
      · rw [if_neg h, if_neg h]
theorem len_putN {f : Nat} {v : PV} : ∀ {fs : List (Nat × PV)}, (putN f v fs).length = if (getN f fs).isSome = true then fs.length else fs.length + 1
  | [] => rfl
  | (a, x) :: r => by
    unfold putN getN
    by_cases ha : a = f
    · rw [if_pos ha, if_pos ha]; rfl
    · rw [if_neg ha, if_neg ha, List.length_cons, len_putN]
      split <;> rfl
theorem len_putF {f : Str} {v : V} : ∀ {fs : List (Str × V)}, (putF f v fs).length = if (fs.lookup f).isSome = true then fs.length else fs.length + 1
  | [] => rfl
  | (a, x) :: r => by
    unfold putF
    have e : List.lookup f ((a, x) :: r) = match f == a with | true => some x | false => r.lookup f := rfl
    by_cases ha : a = f
    · have h2 : (f == a) = true := beq_iff_eq.mpr ha.symm
      rw [if_pos ha, e, h2]; rfl
    · have h2 : (f == a) = false := beq_eq_false_iff_ne.mpr (Ne.symm ha)
      rw [if_neg ha, e, h2, List.length_cons, len_putF]
      split <;> rfl
theorem keys_putF {f : Str} {v : V} {s : Str} : ∀ {fs : List (Str × V)}, s ∈ (putF f v fs).map (·.1) → s = f ∨ s ∈ fs.map (·.1)
  | [], h => .inl (List.mem_singleton.mp h)
  | (a, x) :: r, h => by
    unfold putF at h
    split at h
    · exact .inr h
    · rcases List.mem_cons.mp h with h | h
      · exact .inr (h ▸ List.mem_cons_self ..)
      · exact (keys_putF h).imp id (List.mem_cons_of_mem _)
/-- two names, two values -/
theorem asg_par {X : Cx} {N : List Str} {sc : Sco} {W : WX} {dc : Bool} (g : GoodS M X N sc W k dc) {t : T} {e : E} {z y : Expr} {pos : Pos} (h1 : mT M.toMe dc N sc t z = true) (h2 : mE M.toMe N sc e y = true) (h5 : parB sc z y = true) (h6 : parT t = true) (hnw : noW e = true) :
    PS X (.Assign [z] y pos) (tS M W fun l h D => evS M.G (callS M.G k) (.asg t e) l h D) := by
  unfold parB at h5
  split at h5
  case h_2 => cases h5
  rename_i x1 p1 x2 p2 kt pt a b k2 pt2
  have h5' : parB X.env.scope.names (.Tuple [.Name x1 p1, .Name x2 p2] kt pt) (.Tuple [a, b] k2 pt2) = true := by rw [g.g.sc]; exact h5
  have hw := sw_par (k2 := k2) (pt2 := pt2) (kt := kt) (pt := pt) h5' (bk_of g.g)
  unfold parT at h6
  split at h6
  case h_2 => cases h6
  rename_i i j
  have hij : i ≠ j := by simpa using h6
  obtain ⟨m1, m2⟩ := ba (show (mT M.toMe dc N sc (.nm i) (.Name x1 p1) && (mT M.toMe dc N sc (.nm j) (.Name x2 p2) && true)) = true from h1)
  have m2 := (ba m2).1
  obtain ⟨n1, _⟩ := ba m1
  obtain ⟨n2, _⟩ := ba m2
  obtain ⟨q1, _⟩ := ba h5
  obtain ⟨q1, _⟩ := ba q1
  obtain ⟨l1, l2⟩ := ba q1
  cases e <;> first | exact absurd h2 Bool.false_ne_true | exact absurd hnw Bool.false_ne_true | (rename_i f a; cases a <;> exact absurd h2 Bool.false_ne_true) | skip
  rename_i es
  have h2 : mEs M.toMe N sc es [a, b] = true := h2
  refine (ps_par (i := i) (j := j) g.g.calm (by rw [g.g.hN]; exact g.g.nd) (by rw [g.g.hN]; exact of_decide_eq_true n1) (by rw [g.g.hN]; exact of_decide_eq_true n2) hij (by rw [g.g.sc]; exact beq_iff_eq.mp l1) (by rw [g.g.sc]; exact beq_iff_eq.mp l2) (sEs es X N sc W _ g.g h2) hw).wk fun D σ H q => ?_
  obtain ⟨m, l, h, rh, rl, q⟩ := q
  refine tA_in rh rl (LN.ex_ (Ex.refl m) (Kp.refl _ H) rl) q fun m1 H1 vs ws h1 e1 k1 rh1 rl1 rv1 q1 => ?_
  obtain ⟨_, xs, ex, lx, q1⟩ := q1
  cases ex
  obtain ⟨v1, r1, rfl, b1, q1⟩ := q1
  obtain ⟨v2, r2, rfl, b2, q1⟩ := q1
  obtain ⟨rfl, q1⟩ := q1
  obtain ⟨w1, r1, rfl, rv1, rr⟩ := rv1
  obtain ⟨w2, r2, rfl, rv2, rr⟩ := rr
  cases (show r2 = [] from rr)
  exact ⟨w1, w2, rfl, q1 m1 H1 _ e1 k1 rh1 ((rl1.set rv1).set rv2)⟩
theorem asg_gen {X : Cx} {N : List Str} {sc : Sco} {W : WX} {dc : Bool} (g : GoodS M X N sc W k dc) {t : T} {e : E} {z y : Expr} {pos : Pos} (hm : ((mT M.toMe dc N sc t z && mE M.toMe N sc e y) && ((!tupTup z y || (parB sc z y && parT t)) && ((notComp y || isLC y) && noW e))) = true) :
    PS X (.Assign [z] y pos) (tS M W fun l h D => evS M.G (callS M.G k) (.asg t e) l h D) := by
  obtain ⟨h12, h34⟩ := ba hm
  obtain ⟨h1, h2⟩ := ba h12
  obtain ⟨h3, h4w⟩ := ba h34
  obtain ⟨h4, hnw⟩ := ba h4w
  by_cases htt : tupTup z y = true
  case pos =>
    rw [htt] at h3
    obtain ⟨h5, h6⟩ := ba (show (parB sc z y && parT t) = true from h3)
    exact asg_par g h1 h2 h5 h6 hnw
  have h3 : (!tupTup z y) = true := by rw [Bool.eq_false_iff.mpr htt]; rfl
  by_cases hsw : swB sc z y = true
  · exact asg_lc g (sE e X N sc W y g.g h2) h1 h2 h4 hnw hsw
  have hsw : swB sc z y = false := by simpa using hsw
  refine (ps_asg (sE e X N sc W y g.g h2) (sG t dc X N sc W (fun _ _ => True) z g.g g.cel h1) (by show swapsWith y (some z) pos.line X.env = pure false; rw [sw_swB h4 (bk_of g.g), g.g.sc, hsw]) (sw_none (nb h3)) (by rw [as_each h1 X.env []] <;> rfl)).wk fun D σ H q => ?_
  obtain ⟨m, l, h, rh, rl, q⟩ := q
  refine tE_in rh rl (LN.ex_ (Ex.refl m) (Kp.refl _ H) rl) q fun m1 H1 v w h1 e1 k1 rh1 rl1 rv1 q1 => ?_
  exact ⟨m1, l, h1, v, rh1, rl1, rv1, evG_mono (csle M k) (fun _ _ _ => trivial) t v l h1 _ _ (LG.mono e1 k1) q1⟩
theorem asg_attr {X : Cx} {N : List Str} {sc : Sco} {W : WX} {dc : Bool} (g : GoodS M X N sc W k dc) {o : E} {f : Nat} {e : E} {x : Stmt} (hm : mS M.toMe dc N sc (.asg (.attr o f) e) x = true) :
    PS X x (tS M W fun l h D => evS M.G (callS M.G k) (.asg (.attr o f) e) l h D) := by
    cases x <;> first | exact absurd hm Bool.false_ne_true | skip
    rename_i tg y pos
    match tg, hm with
    | [], hm => exact absurd hm Bool.false_ne_true
    | w :: _ :: _, hm => cases w <;> exact absurd hm Bool.false_ne_true
    | [z], hm =>
      cases z <;> first | exact absurd hm Bool.false_ne_true | skip
      rename_i x' nm p
      obtain ⟨h1, h234⟩ := ba hm
      obtain ⟨h2, h34⟩ := ba h234
      obtain ⟨h3, h4⟩ := ba h34
      have e := of_decide_eq_true h1
      subst e
      refine (ps_fld (sE o X N sc W x' g.g h2) (sE e X N sc W y g.g h3) (by rw [sw_swB h4 (bk_of g.g)] <;> rfl)).wk fun D σ H q => ?_
      obtain ⟨m, l, h, rh, rl, q⟩ := q
      refine tE_in rh rl (LN.ex_ (Ex.refl m) (Kp.refl _ H) rl) q fun m1 H1 v w h1 e1 k1 rh1 rl1 rv1 q1 => ?_
      refine tE_in rh1 rl1 (LN.ex_ e1 k1 rl1) q1 fun m2 H2 u w2 h2 e2 k2 rh2 rl2 rv2 q2 => ?_
      obtain ⟨p, c, fs, cd, rfl, ep, hc, hf, hlen, q2⟩ := q2
      obtain ⟨pa, e3, rfl⟩ := rv2
      obtain ⟨dx, gs, cd', a1, a2, a3, a4, a5⟩ := rh2.obj _ _ _ ep e3
      rw [hc] at a2; cases a2
      have ok := g.g.cls c cd hc
      have hf' : f ∈ cd.fields := List.contains_iff_mem.mp hf
      refine ⟨pa, _, dx, gs, rfl, a1, by rw [g.g.hK]; exact ok.cls, by rw [g.g.hK]; exact ok.noat f hf', by omega, ?_⟩
      have kk : Kp M.K H2 (upd H2 pa (.ins (M.ca c) dx (putF (M.nm f) w gs))) := Kp.upd_old a1 rfl
      have put := rh2.put (u := .ins (M.ca c) dx (putF (M.nm f) w gs)) (o := .ins c (putN f v fs)) ep e3 rfl rfl ⟨dx, _, cd, upd_same, hc, ?_, ?_, ?_⟩
      · exact q2 m2 _ σ (e1.trans e2) ((k1.trans k2).trans kk) put.1 (rl2.mono kk (Ex.refl m2))
      · intro f2 hf2
        rw [lookup_putF, getN_putN]
        by_cases hz : f2 = f
        · subst hz
          rw [if_pos rfl, if_pos rfl]
          exact (rv1.mono k2 e2).mono kk (Ex.refl m2) _ _
        · rw [if_neg hz, if_neg (fun z => hz (ok.inj _ (List.contains_iff_mem.mp hf2) _ hf' z))]
          exact (a3 f2 hf2).mono kk (Ex.refl m2) _ _
      · rw [len_putF, len_putN, a4]
        have o := a3 f hf
        cases e5 : getN f fs <;> cases e6 : gs.lookup (M.nm f) <;> rw [e5, e6] at o <;> first | rfl | exact o.elim
      · intro s hs
        rcases keys_putF hs with rfl | hs
        · exact List.mem_map_of_mem hf'
        · exact a5 s hs
theorem ps_put {X : Cx} {o i value : Expr} {td ty tv : TE} {t : TSet} {pos pos' : Pos} (hset : PSet X t) (ho : PE X o td) (hi : PE X i ty) (hv : PE X value tv) (hs : swapsWith value (some (.Subscript o i pos')) pos.line X.env = pure false) :
    PS X (.Assign [.Subscript o i pos'] value pos) (fun D σ H => tv σ H fun v H1 => td σ H1 fun x H2 => ty σ H2 fun y H3 => t x y v H3 fun H4 => D.nx σ H4) := by
  refine ⟨fun pins s σ H D I h => ?_⟩
  refine wpAny_Assign_Subscript (thn (hv.run pins s σ H _ I h) fun r s1 ⟨v, H1, I1, rv, q1⟩ => thn (ho.run pins s1 σ H1 _ I1 q1) fun u s2 ⟨x, H2, I2, rx, q2⟩ => thn (hi.run pins s2 σ H2 _ I2 q2) fun iv s3 ⟨y, H3, I3, ry, q3⟩ => ?_) hs
  exact thn (hset pins s3 σ H3 x y v u iv r _ I3 rx ry rv q3) fun _ s' ⟨H', I', q⟩ => ⟨σ, H', I', q⟩
theorem asg_sub {X : Cx} {N : List Str} {sc : Sco} {W : WX} {dc : Bool} (g : GoodS M X N sc W k dc) {o i : E} {e : E} {x : Stmt} (hm : mS M.toMe dc N sc (.asg (.sub o i) e) x = true) :
    PS X x (tS M W fun l h D => evS M.G (callS M.G k) (.asg (.sub o i) e) l h D) := by
  cases x <;> first | exact absurd hm Bool.false_ne_true | skip
  rename_i tg y pos
  match tg, hm with
  | [], hm => exact absurd hm Bool.false_ne_true
  | w :: _ :: _, hm => cases w <;> exact absurd hm Bool.false_ne_true
  | [z], hm =>
    cases z <;> first | exact absurd hm Bool.false_ne_true | skip
    rename_i x' y' p
    obtain ⟨h1, h234⟩ := ba hm
    obtain ⟨h2, h34⟩ := ba h234
    obtain ⟨h3, h4⟩ := ba h34
    have hset : PSet X fun o i v H Q => rSetL o i v H Q ∨ rSetD o i v H Q := fun pins s σ H o i v ov iv u Q I ro ri rv h => h.elim (set_list pins s σ H o i v ov iv u Q I ro ri rv) (set_dict (by have := g.g.room.un; omega) pins s σ H o i v ov iv u Q I ro ri rv)
    refine (ps_put hset (sE o X N sc W x' g.g h1) (sE i X N sc W y' g.g h2) (sE e X N sc W y g.g h3) (by rw [sw_swB h4 (bk_of g.g)] <;> rfl)).wk fun D σ H q => ?_
    obtain ⟨m, l, h, rh, rl, q⟩ := q
    refine tE_in rh rl (LN.ex_ (Ex.refl m) (Kp.refl _ H) rl) q fun m1 H1 v w h1 e1 k1 rh1 rl1 rv1 q1 => ?_
    refine tE_in rh1 rl1 (LN.ex_ e1 k1 rl1) q1 fun m2 H2 u w2 h2 e2 k2 rh2 rl2 rv2 q2 => ?_
    refine tE_in rh2 rl2 (LN.ex_ (e1.trans e2) (k1.trans k2) rl2) q2 fun m3 H3 u3 w3 h3 e3 k3 rh3 rl3 rv3 q3 => ?_
    unfold putV at q3
    split at q3
    case h_2 => exact q3.elim
    rename_i b
    obtain ⟨pb, eb, rfl⟩ := rv2
    have eb3 := e3 _ _ eb
    split at q3
    case h_3 => exact q3.elim
    · rename_i xs ed
      obtain ⟨i, j, rfl, hj, q3⟩ := q3
      cases (show w3 = .int _ from rv3)
      obtain ⟨vs, e4, rk⟩ := rh3.obj _ _ _ ed eb3
      have rk : RVs M.K H3 m3 xs vs := rk
      have kk : Kp M.K H3 (upd H3 pb (.lst (vs.set j w))) := Kp.upd_old e4 rfl
      refine .inl ⟨pb, vs, i, j, rfl, rfl, e4, by rw [← rk.len]; exact hj, ?_⟩
      have put := rh3.put (u := .lst (vs.set j w)) (o := .lst (xs.set j v)) ed eb3 rfl rfl ⟨_, upd_same, (RVs.setI (RV.mono k3 e3 _ _ (RV.mono k2 e2 _ _ rv1)) j rk).mono kk (Ex.refl m3) _ _⟩
      exact q3 m3 _ σ ((e1.trans e2).trans e3) (((k1.trans k2).trans k3).trans kk) put.1 (rl3.mono kk (Ex.refl m3))
    rename_i kvs ed
    obtain ⟨hk, hlen, q3⟩ := q3
    obtain ⟨ks, e4, rk⟩ := rh3.obj _ _ _ ed eb3
    obtain ⟨q', hq, rfl⟩ := isK_of hk rv3
    have kk : Kp M.K H3 (upd H3 pb (.dK (putK ks q' w))) := Kp.upd_old e4 rfl
    refine .inr ⟨pb, _, rfl, DPut.k e4 (by rw [← rk.len]; exact hlen), ?_⟩
    have put := rh3.put (u := .dK (putK ks q' w)) (o := .dic (putD u3 v kvs)) ed eb3 rfl rfl ⟨_, upd_same, (put_of hq (RV.mono k3 e3 _ _ (RV.mono k2 e2 _ _ rv1)) rk).mono kk (Ex.refl m3) _ _⟩
    exact q3 m3 _ σ ((e1.trans e2).trans e3) (((k1.trans k2).trans k3).trans kk) put.1 (rl3.mono kk (Ex.refl m3))
def rAug (M : Mo) (o : BO) : V → V → Hp → VK → Prop := fun x y H Q => ∃ m h a b, RH M H m h ∧ RV M.K H m a x ∧ RV M.K H m b y ∧ augV o a b h (LQ M m H Q)
theorem aug_attr {X : Cx} {N : List Str} {sc : Sco} {W : WX} {dc : Bool} (g : GoodS M X N sc W k dc) {ob : E} {f : Nat} {o : BO} {e : E} {x : Stmt} (hm : mS M.toMe dc N sc (.augF ob f o e) x = true) :
    PS X x (tS M W fun l h D => evS M.G (callS M.G k) (.augF ob f o e) l h D) := by
  cases x <;> first | exact absurd hm Bool.false_ne_true | skip
  rename_i tg p z pos
  cases tg <;> first | exact absurd hm Bool.false_ne_true | skip
  rename_i x' nm tp
  obtain ⟨h1, h234⟩ := ba hm
  obtain ⟨h2, h34⟩ := ba h234
  obtain ⟨h3, h4⟩ := ba h34
  have en := of_decide_eq_true h1
  subst en
  have eo := of_decide_eq_true h3
  subst eo
  have hop : InOp X (bopOf o) (rAug M o) := fun pins s σ H x y u v Q I rx ry q => sA o pins s σ H x y u v Q I rx ry q
  refine (ps_fldaug (sE ob X N sc W x' g.g h2) (sE e X N sc W z g.g h4) hop).wk fun D σ H q => ?_
  obtain ⟨m, l, h, rh, rl, q⟩ := q
  refine tE_in rh rl (LN.ex_ (Ex.refl m) (Kp.refl _ H) rl) q fun m1 H1 v w h1 e1 k1 rh1 rl1 rv1 q1 => ?_
  obtain ⟨pp, c, fs, v0, cd, rfl, ep, hc, hf, hg, q1⟩ := q1
  obtain ⟨pa, e3, rfl⟩ := rv1
  obtain ⟨dx, gs, cd', a1, a2, a3, a4, a5⟩ := rh1.obj _ _ _ ep e3
  rw [hc] at a2; cases a2
  have ok := g.g.cls c cd hc
  have hf' : f ∈ cd.fields := List.contains_iff_mem.mp hf
  have o3 := a3 f hf
  rw [hg] at o3
  cases e6 : gs.lookup (M.nm f) with
  | none => rw [e6] at o3; exact o3.elim
  | some w0 =>
  rw [e6] at o3
  have rv0 : RV M.K H1 m1 v0 w0 := o3
  refine ⟨pa, _, dx, gs, w0, rfl, a1, by rw [g.g.hK]; exact ok.cls, by rw [g.g.hK]; exact ok.noat f hf', e6, ?_⟩
  refine tE_in rh1 rl1 (LN.ex_ e1 k1 rl1) q1 fun m2 H2 u w2 h2 e2 k2 rh2 rl2 rv2 q2 => ?_
  refine ⟨m2, h2, v0, u, rh2, rv0.mono k2 e2 _ _, rv2, augV_mono (fun z h3 q3 m3 H3 w3 e3' k3 rh3 rv3 => ?_) q2⟩
  obtain ⟨fs', b1, b2, q3⟩ := q3
  have e33 := e3' _ _ (e2 _ _ e3)
  obtain ⟨dx', gs', cd'', b3, b4, b5, b6, b7⟩ := rh3.obj _ _ _ b1 e33
  rw [hc] at b4; cases b4
  refine ⟨dx', gs', b3, by omega, ?_⟩
  have kk : Kp M.K H3 (upd H3 pa (.ins (M.ca c) dx' (putF (M.nm f) w3 gs'))) := Kp.upd_old b3 rfl
  have put := rh3.put (u := .ins (M.ca c) dx' (putF (M.nm f) w3 gs')) (o := .ins c (putN f z fs')) b1 e33 rfl rfl ⟨dx', _, cd, upd_same, hc, ?_, ?_, ?_⟩
  · exact q3 m3 _ σ ((e1.trans e2).trans e3') (((k1.trans k2).trans k3).trans kk) put.1 ((rl2.mono k3 e3').mono kk (Ex.refl m3))
  · intro f2 hf2
    rw [lookup_putF, getN_putN]
    by_cases hz : f2 = f
    · subst hz
      rw [if_pos rfl, if_pos rfl]
      exact rv3.mono kk (Ex.refl m3) _ _
    · rw [if_neg hz, if_neg (fun z => hz (ok.inj _ (List.contains_iff_mem.mp hf2) _ hf' z))]
      exact (b5 f2 hf2).mono kk (Ex.refl m3) _ _
  · rw [len_putF, len_putN, b6]
    have o := b5 f hf
    cases e5 : getN f fs' <;> cases e6 : gs'.lookup (M.nm f) <;> rw [e5, e6] at o <;> first | rfl | exact o.elim
  · intro s hs
    rcases keys_putF hs with rfl | hs
    · exact List.mem_map_of_mem hf'
    · exact b7 s hs
theorem aug_dic {X : Cx} {N : List Str} {sc : Sco} {W : WX} {dc : Bool} (g : GoodS M X N sc W k dc) {ob ix : E} {o : BO} {e : E} {x : Stmt} (hm : mS M.toMe dc N sc (.augD ob ix o e) x = true) :
    PS X x (tS M W fun l h D => evS M.G (callS M.G k) (.augD ob ix o e) l h D) := by
  cases x <;> first | exact absurd hm Bool.false_ne_true | skip
  rename_i tg p z pos
  cases tg <;> first | exact absurd hm Bool.false_ne_true | skip
  rename_i x' y' tp
  obtain ⟨h1, h234⟩ := ba hm
  obtain ⟨h2, h34⟩ := ba h234
  obtain ⟨h3, h4⟩ := ba h34
  have eo := of_decide_eq_true h3
  subst eo
  have hop : InOp X (bopOf o) (rAug M o) := fun pins s σ H x y u v Q I rx ry q => sA o pins s σ H x y u v Q I rx ry q
  refine (ps_daug (by have := g.g.room.un; omega) (sE ob X N sc W x' g.g h1) (sE ix X N sc W y' g.g h2) (sE e X N sc W z g.g h4) hop (fun ov iv nw => by cases y' <;> first | rfl | exact (notSlice h2).elim)).wk fun D σ H q => ?_
  obtain ⟨m, l, h, rh, rl, q⟩ := q
  refine tE_in rh rl (LN.ex_ (Ex.refl m) (Kp.refl _ H) rl) q fun m1 H1 v w h1 e1 k1 rh1 rl1 rv1 q1 => ?_
  refine tE_in rh1 rl1 (LN.ex_ e1 k1 rl1) q1 fun m2 H2 u2 w2 h2 e2 k2 rh2 rl2 rv2 q2 => ?_
  obtain ⟨pp, kvs, v0, rfl, hk, ed, el, q2⟩ := q2
  obtain ⟨pa, ep, rfl⟩ := rv1
  have ep2 := e2 _ _ ep
  obtain ⟨ks, e4, rk⟩ := rh2.obj _ _ _ ed ep2
  obtain ⟨q', hq, rfl⟩ := isK_of hk rv2
  have lk := look_of hq rk
  rw [el] at lk
  cases e6 : valV ks q' with
  | none => rw [e6] at lk; exact lk.elim
  | some w0 =>
  rw [e6] at lk
  have rv0 : RV M.K H2 m2 v0 w0 := lk
  refine ⟨pa, w0, rfl, .inl ⟨ks, q', .inl e4, rfl, e6.symm⟩, ?_⟩
  have e12 := e1.trans e2
  have k12 := k1.trans k2
  refine tE_in rh2 rl2 (LN.ex_ e12 k12 rl2) q2 fun m3 H3 u w3 h3 e3 k3 rh3 rl3 rv3 q3 => ?_
  refine ⟨m3, h3, v0, u, rh3, rv0.mono k3 e3 _ _, rv3, augV_mono (fun z h4 q4 m4 H4 w4 e4' k4 rh4 rv4 => ?_) q3⟩
  obtain ⟨kvs', b1, b2, q4⟩ := q4
  have ep4 := e4' _ _ (e3 _ _ ep2)
  obtain ⟨ks', b3, rk'⟩ := rh4.obj _ _ _ b1 ep4
  have kk : Kp M.K H4 (upd H4 pa (.dK (putK ks' q' w4))) := Kp.upd_old b3 rfl
  refine ⟨_, DPut.k b3 (by rw [← rk'.len]; exact b2), ?_⟩
  have put := rh4.put (u := .dK (putK ks' q' w4)) (o := .dic (putD u2 z kvs')) b1 ep4 rfl rfl ⟨_, upd_same, (put_of hq rv4 rk').mono kk (Ex.refl m4) _ _⟩
  exact q4 m4 _ σ ((e12.trans e3).trans e4') (((k12.trans k3).trans k4).trans kk) put.1 (((rl3.mono k4 e4')).mono kk (Ex.refl m4))
mutual
theorem sS : ∀ (s : S) (X : Cx) (N : List Str) (sc : Sco) (W : WX) (dc : Bool) (x : Stmt), GoodS M X N sc W k dc → mS M.toMe dc N sc s x = true → PS X x (tS M W fun l h D => evS M.G (callS M.G k) s l h D)
  | .asg (.nm i) e, X, N, sc, W, dc, x, g, hm => by
    cases x <;> first | exact absurd hm Bool.false_ne_true | skip
    rename_i tg y pos
    match tg, hm with
    | [], hm => exact absurd hm Bool.false_ne_true
    | _ :: _ :: _, hm => exact absurd hm Bool.false_ne_true
    | [z], hm => exact asg_gen g hm
  | .asg (.tup ts) e, X, N, sc, W, dc, x, g, hm => by
    cases x <;> first | exact absurd hm Bool.false_ne_true | skip
    rename_i tg y pos
    match tg, hm with
    | [], hm => exact absurd hm Bool.false_ne_true
    | _ :: _ :: _, hm => exact absurd hm Bool.false_ne_true
    | [z], hm => exact asg_gen g hm
  | .asg (.attr o f) e, X, N, sc, W, dc, x, g, hm => asg_attr g hm
  | .asg (.sub o i) e, X, N, sc, W, dc, x, g, hm => asg_sub g hm
  | .augF ob f o e, X, N, sc, W, dc, x, g, hm => aug_attr g hm
  | .augD ob ix o e, X, N, sc, W, dc, x, g, hm => aug_dic g hm
  | .lks s, X, N, sc, W, dc, x, g, hm => by
    have ps := sS s X N sc W dc x g hm
    refine ⟨fun pins s0 σ H D I h => ?_⟩
    obtain ⟨m, l, hh, rh, rl, q⟩ := h
    rcases q with q | ⟨a, kvs, e1, q⟩
    · exact ps.run pins s0 σ H D I ⟨m, l, hh, rh, rl, q⟩
    · obtain ⟨p, ep, _⟩ := rh.addr e1
      obtain ⟨ks, hp, lk⟩ := rh.lock e1 ep
      refine (ps_lock ps).run pins s0 σ H D I ⟨p, .dK ks, hp, trivial, fun od => ?_⟩
      have go : ∀ {m' : List Addr} {H' : Hp} {h' : PH}, Ex m m' → Kp M.K (upd H p (.frz od (.dK ks))) H' → RH M H' m' h' → h'[a]? = some (.frd kvs) → H' p = some (.frz od (.dK ks)) ∧ RH M (upd H' p (.dK ks)) m' (h'.set a (.dic kvs)) ∧ Kp M.K H (upd H' p (.dK ks)) ∧ (∀ x v, RV M.K H' m' x v → RV M.K (upd H' p (.dK ks)) m' x v) := fun e' k' rh' q1 => by
        obtain ⟨r1, kk, mv, _⟩ := RH.loose k' hp rh' q1 (e' _ _ ep)
        exact ⟨k'.frz _ _ _ upd_same, r1, kk, mv⟩
      have gn : ∀ {Q : L2.St → Hp → Prop} {l' : Py.Loc} {h' : PH}, h'[a]? = some (.frd kvs) ∧ LG M m H Q l' (h'.set a (.dic kvs)) → LG M m (upd H p (.frz od (.dK ks))) (fun σ' H' => H' p = some (.frz od (.dK ks)) ∧ Q σ' (upd H' p (.dK ks))) l' h' := fun q2 m' H' σ' e' k' rh' rl' => by
        obtain ⟨g1, g2, g3, g4⟩ := go e' k' rh' q2.1
        exact ⟨g1, q2.2 m' _ σ' e' g3 g2 ⟨rl'.1, fun i v h => let ⟨w, a, b⟩ := rl'.2 i v h; ⟨w, a, g4 _ _ b⟩⟩⟩
      refine ⟨m, l, _, (lk od).1, rl.mono (lk od).2 (Ex.refl m), evS_mono (csle M k) s l _ (lkD (LN M W m H D) a kvs) _ ⟨fun _ _ q2 => gn q2, fun v h' q2 m' H' w e' k' rh' rv' => ?_, fun _ _ q2 => gn q2, fun _ _ _ z => z.elim⟩ q⟩
      obtain ⟨g1, g2, g3, g4⟩ := go e' k' rh' q2.1
      exact ⟨g1, q2.2 m' _ w e' g3 g2 (g4 _ _ rv')⟩
  | .aug i o e, X, N, sc, W, dc, x, g, hm => by
    cases x <;> first | exact absurd hm Bool.false_ne_true | skip
    rename_i tg p y pos
    cases tg <;> first | exact absurd hm Bool.false_ne_true | skip
    obtain ⟨h12, h34⟩ := ba hm
    obtain ⟨h1, h2⟩ := ba h12
    obtain ⟨h3, h4⟩ := ba h34
    have eo := of_decide_eq_true h3
    subst eo
    obtain ⟨l1, l2⟩ := loc_of g.g g.cel h2
    refine (ps_aug (i := i) (ti := r2 M (augV o)) (by rw [g.g.hN]; exact g.g.nd) (by rw [g.g.hN]; exact of_decide_eq_true h1) l1 (sE e X N sc W y g.g h4) (fun pins s σ H x y v u Q I r1 r2 h => sA o pins s σ H x y v u Q I r1 r2 h) l2).wk fun D σ H q => ?_
    obtain ⟨m, l, h, rh, rl, x, ex, q⟩ := q
    obtain ⟨w0, e0, r0⟩ := rl.2 i x ex
    refine ⟨w0, e0, ?_⟩
    refine tE_in rh rl (LN.ex_ (Ex.refl m) (Kp.refl _ H) rl) q fun m1 H1 v w h1 e1 k1 rh1 rl1 rv1 q1 => ?_
    refine ⟨m1, h1, x, v, rh1, r0.mono k1 e1, rv1, augV_mono (fun z h2 q2 m2 H2 w2 e2 k2 rh2 rv2 => ?_) q1⟩
    exact q2 m2 H2 _ (e1.trans e2) (k1.trans k2) rh2 ((rl1.mono k2 e2).set rv2)
  | .exp e, X, N, sc, W, dc, x, g, hm => by
    cases x <;> first | exact absurd hm Bool.false_ne_true | skip
    rename_i y pos
    obtain ⟨h1, h2⟩ := ba hm
    refine (ps_expr (sE e X N sc W y g.g h1) (notComp_sw h2)).wk fun D σ H q => ?_
    obtain ⟨m, l, h, rh, rl, q⟩ := q
    refine tE_in rh rl (LN.ex_ (Ex.refl m) (Kp.refl _ H) rl) q fun m1 H1 v w h1 e1 k1 rh1 rl1 rv1 q1 => ?_
    exact q1 m1 H1 σ e1 k1 rh1 rl1
  | .ret e, X, N, sc, W, dc, x, g, hm => by
    cases x <;> first | exact absurd hm Bool.false_ne_true | skip
    rename_i y pos
    cases y <;> first | exact absurd hm Bool.false_ne_true | skip
    refine (ps_ret (sE e X N sc W _ g.g hm)).wk fun D σ H q => ?_
    obtain ⟨m, l, h, rh, rl, q⟩ := q
    exact tE_in rh rl (LN.ex_ (Ex.refl m) (Kp.refl _ H) rl) q fun m1 H1 v w h1 e1 k1 rh1 rl1 rv1 q1 => (LQ.mono e1 k1 _ _ q1).at rh1 rv1
  | .retN, X, N, sc, W, dc, x, g, hm => by
    cases x <;> first | exact absurd hm Bool.false_ne_true | skip
    rename_i y pos
    cases y <;> first | exact absurd hm Bool.false_ne_true | skip
    exact ps_retN.wk fun D σ H ⟨m, l, h, rh, rl, q⟩ => LQ.at q rh rfl
  | .ife c a b, X, N, sc, W, dc, x, g, hm => by
    cases x <;> first | exact absurd hm Bool.false_ne_true | skip
    rename_i y xs ys pos
    obtain ⟨h1, h23⟩ := ba hm
    obtain ⟨h2, h3⟩ := ba h23
    refine (ps_if (sT c X N sc W y g.g h1).1 (sBk a X N sc W dc xs g h2) (sBk b X N sc W dc ys g h3)).wk fun D σ H q => ?_
    obtain ⟨m, l, h, rh, rl, q⟩ := q
    refine tT_in rh rl (LN.ex_ (Ex.refl m) (Kp.refl _ H) rl) q fun m1 H1 r h1 e1 k1 rh1 rl1 q1 => ?_
    cases r with
    | true => exact ⟨m1, l, h1, rh1, rl1, evB_mono (csle M k) a l h1 _ _ (LN.le e1 k1) q1⟩
    | false => exact ⟨m1, l, h1, rh1, rl1, evB_mono (csle M k) b l h1 _ _ (LN.le e1 k1) q1⟩
  | .for t it b, X, N, sc, W, dc, x, g, hm => by
    cases x <;> first | exact absurd hm Bool.false_ne_true | skip
    rename_i tg y xs ys pos
    cases ys <;> first | exact absurd hm Bool.false_ne_true | skip
    obtain ⟨h12, h3⟩ := ba hm
    obtain ⟨h1, h2⟩ := ba h12
    obtain ⟨hi, hn⟩ := sI it X N sc W tg y g.g h1
    refine (ps_for g.pas g.g.calm hi (sG t dc X N sc W (fun _ _ => True) tg g.g g.cel h2) (sBk b X N sc W dc xs g h3) (Py.fold_of hn X.env)).wk fun D σ H q => ?_
    obtain ⟨m, l, h, rh, rl, q⟩ := q
    refine ⟨m, l, h, rh, rl, evI_mono (csle M k) (LN.ex_ (Ex.refl m) (Kp.refl _ H) rl) it l h _ _ (fun items live h1 q1 m1 H1 J e1 k1 rh1 wk => ?_) q⟩
    obtain ⟨G, Y, w, wG, wY⟩ := wk.ex
    refine for_it w (fun i σ' H' => ∃ m' l' h', Ex m1 m' ∧ Kp M.K H1 H' ∧ RH M H' m' h' ∧ RL M.K H' m' l' σ' ∧
      iterL live (fun v l' h' K => evG M.G (callS M.G k) (fun x h' => (LN M W m H D).ex x l' h') t v l' h' fun l2 h2 => evB M.G (callS M.G k) b l2 h2 { LN M W m H D with nx := K, ct := K }) (LN M W m H D).nx (items.drop i) l' h') ?_ ?_ ?_ ?_
    · exact ⟨m1, l, h1, Ex.refl m1, Kp.refl _ H1, rh1, rl.mono k1 e1, q1⟩
    · rintro i σ' H' hi ⟨m', l', h', e2, k2, rh2, rl2, q2⟩
      refine wG m' H' h' e2 k2 rh2 ?_
      generalize items.drop i = ds at q2
      cases ds with
      | nil => exact q2.1
      | cons _ _ => exact q2.1
    · rintro i x σ' H' H'' hi ⟨m', l', h', e2, k2, rh2, rl2, q2⟩ y
      have hlt : i < items.length := hi
      have lv : live h' := by
        generalize items.drop i = ds at q2
        cases ds with
        | nil => exact q2.1
        | cons _ _ => exact q2.1
      obtain ⟨v, ev, rh3, k3, rv3⟩ := wY i m' H' h' x H'' e2 k2 rh2 lv hlt y
      rw [drop_cons ev] at q2
      have e13 := e1.trans e2
      have k13 := (k1.trans k2).trans k3
      refine ⟨m', l', h', v, rh3, rl2.mono k3 (Ex.refl m'), rv3, evG_mono (csle M k) (fun _ _ _ => trivial) t v l' h' _ _ (fun l4 h4 q4 m4 H4 σ4 e4 k4 rh4 rl4 => ?_) q2.2⟩
      refine ⟨m4, l4, h4, rh4, rl4, evB_mono (csle M k) b l4 h4 _ _ ?_ q4⟩
      have e14 := e13.trans e4
      have k14 := k13.trans k4
      have again : ∀ (l5 : Py.Loc) (h5 : PH), iterL live (fun v l' h' K => evG M.G (callS M.G k) (fun x h' => (LN M W m H D).ex x l' h') t v l' h' fun l2 h2 => evB M.G (callS M.G k) b l2 h2 { LN M W m H D with nx := K, ct := K }) (LN M W m H D).nx (items.drop (i + 1)) l5 h5 →
          LG M m4 H4 (fun σ' H' => ∃ m' l' h', Ex m1 m' ∧ Kp M.K H1 H' ∧ RH M H' m' h' ∧ RL M.K H' m' l' σ' ∧
            iterL live (fun v l' h' K => evG M.G (callS M.G k) (fun x h' => (LN M W m H D).ex x l' h') t v l' h' fun l2 h2 => evB M.G (callS M.G k) b l2 h2 { LN M W m H D with nx := K, ct := K }) (LN M W m H D).nx (items.drop (i + 1)) l' h') l5 h5 :=
        fun l5 h5 q5 m5 H5 σ5 e5 k5 rh5 rl5 => ⟨m5, l5, h5, (e2.trans e4).trans e5, ((k2.trans k3).trans k4).trans k5, rh5, rl5, q5⟩
      exact ⟨again, LQ.mono e14 k14, again, (LN.le (D := D) (W := W) e14 k14).ex⟩
    · rintro σ' H' ⟨m', l', h', e2, k2, rh2, rl2, q2⟩
      rw [List.drop_length] at q2
      exact q2.2 m' H' σ' (e1.trans e2) (k1.trans k2) rh2 rl2
  | .whl c b, X, N, sc, W, dc, x, g, hm => by
    cases x <;> first | exact absurd hm Bool.false_ne_true | skip
    rename_i y xs ys pos
    cases ys <;> first | exact absurd hm Bool.false_ne_true | skip
    obtain ⟨h1, h2⟩ := ba hm
    refine (ps_while g.pas (sT c X N sc W y g.g h1).1 (sBk b X N sc W dc xs g h2)).wk fun D σ H q => ?_
    obtain ⟨m, l, h, rh, rl, n, q⟩ := q
    refine ⟨fun n σ' H' => ∃ m' l' h', Ex m m' ∧ Kp M.K H H' ∧ RH M H' m' h' ∧ RL M.K H' m' l' σ' ∧
      whlN (fun l' h' K => evT M.G (callS M.G k) (fun x h' => (LN M W m H D).ex x l' h') c l' h' fun r h1 => if r = true then evB M.G (callS M.G k) b l' h1 { LN M W m H D with nx := K, ct := K } else (LN M W m H D).nx l' h1) n l' h',
      ⟨n, m, l, h, Ex.refl m, Kp.refl _ H, rh, rl, q⟩, ?_⟩
    rintro n σ' H' ⟨m', l', h', e2, k2, rh2, rl2, q2⟩
    cases n with
    | zero => exact (show False from q2).elim
    | succ n =>
      refine tT_in rh2 rl2 (LN.ex_ e2 k2 rl2) q2 fun m3 H3 r h3 e3 k3 rh3 rl3 q3 => ?_
      have e13 := e2.trans e3
      have k13 := k2.trans k3
      cases r with
      | false => exact q3 m3 H3 σ' e13 k13 rh3 rl3
      | true =>
        refine ⟨_, fun σ5 H5 z => ⟨n, Nat.lt_succ_self n, z⟩, m3, l', h3, rh3, rl3, evB_mono (csle M k) b l' h3 _ _ ?_ q3⟩
        have again : ∀ (l5 : Py.Loc) (h5 : PH), whlN (fun l' h' K => evT M.G (callS M.G k) (fun x h' => (LN M W m H D).ex x l' h') c l' h' fun r h1 => if r = true then evB M.G (callS M.G k) b l' h1 { LN M W m H D with nx := K, ct := K } else (LN M W m H D).nx l' h1) n l5 h5 →
            LG M m3 H3 (fun σ' H' => ∃ m' l' h', Ex m m' ∧ Kp M.K H H' ∧ RH M H' m' h' ∧ RL M.K H' m' l' σ' ∧
              whlN (fun l' h' K => evT M.G (callS M.G k) (fun x h' => (LN M W m H D).ex x l' h') c l' h' fun r h1 => if r = true then evB M.G (callS M.G k) b l' h1 { LN M W m H D with nx := K, ct := K } else (LN M W m H D).nx l' h1) n l' h') l5 h5 :=
          fun l5 h5 q5 m5 H5 σ5 e5 k5 rh5 rl5 => ⟨m5, l5, h5, e13.trans e5, k13.trans k5, rh5, rl5, q5⟩
        exact ⟨again, LQ.mono e13 k13, again, (LN.le (D := D) (W := W) e13 k13).ex⟩
  | .pas, X, N, sc, W, dc, x, g, hm => by
    cases x <;> first | exact absurd hm Bool.false_ne_true | skip
    exact ps_pass.wk fun D σ H ⟨m, l, h, rh, rl, q⟩ => q m H σ (Ex.refl m) (Kp.refl _ H) rh rl
  | .cont, X, N, sc, W, dc, x, g, hm => by
    cases x <;> first | exact absurd hm Bool.false_ne_true | skip
    exact ps_continue.wk fun D σ H ⟨m, l, h, rh, rl, q⟩ => q m H σ (Ex.refl m) (Kp.refl _ H) rh rl
  | .augS _ _ _ _, X, N, sc, W, dc, x, g, hm => absurd hm (by cases x <;> exact Bool.false_ne_true)
  | .rai0, X, N, sc, W, dc, x, g, hm => ps_never.wk fun D σ H q => by
    obtain ⟨m, l, h, rh, rl, q⟩ := q
    exact q
  | .rais _ _, X, N, sc, W, dc, x, g, hm => ps_never.wk fun D σ H q => by
    obtain ⟨m, l, h, rh, rl, q⟩ := q
    exact q
theorem sBk : ∀ (b : B) (X : Cx) (N : List Str) (sc : Sco) (W : WX) (dc : Bool) (xs : List Stmt), GoodS M X N sc W k dc → mB M.toMe dc N sc b xs = true → PSs X xs (tS M W fun l h D => evB M.G (callS M.G k) b l h D)
  | .nil, X, N, sc, W, dc, [], g, hm => pss_nil.wk fun D σ H ⟨m, l, h, rh, rl, q⟩ => q m H σ (Ex.refl m) (Kp.refl _ H) rh rl
  | .nil, X, N, sc, W, dc, _ :: _, g, hm => absurd hm Bool.false_ne_true
  | .cons _ _, X, N, sc, W, dc, [], g, hm => absurd hm Bool.false_ne_true
  | .cons s b, X, N, sc, W, dc, x :: xs, g, hm => by
    obtain ⟨h1, h2⟩ := ba hm
    refine (pss_cons (sS s X N sc W dc x g h1) (sBk b X N sc W dc xs g h2)).wk fun D σ H q => ?_
    obtain ⟨m, l, h, rh, rl, q⟩ := q
    refine ⟨m, l, h, rh, rl, evS_mono (csle M k) s l h { LN M W m H D with nx := fun l' h' => evB M.G (callS M.G k) b l' h' (LN M W m H D) } _ ⟨fun l1 h1 q1 m1 H1 σ1 e1 k1 rh1 rl1 => ?_, fun _ _ z => z, fun _ _ z => z, fun _ _ _ z => z⟩ q⟩
    exact ⟨m1, l1, h1, rh1, rl1, evB_mono (csle M k) b l1 h1 _ _ (LN.le e1 k1) q1⟩
end
end
end Py

set_option Elab.async false
set_option linter.all false
set_option maxRecDepth 100000
set_option maxHeartbeats 4000000
/-! PySound7: defs, the law. -/
namespace Py
open PySem PySem.Spec PyProof.Rows L2
/-- what is known of a def of the text -/
structure Ent (M : Mo) (f : Nat) (d : FD) : Prop where
  ex : ∃ (x qual : Str) (params : Arguments) (body : List Stmt) (scope : Scope) (dvs : List V) (kws : List (Str × V)) (N ps : List Str) (fd : FuncData),
    FunD M.K x qual params body scope dvs kws (M.fa f) fd ∧ FnScope N ps scope ∧ ps.length = d.np ∧ N.length = d.ns ∧ mB M.toMe true N scope.names d.body body = true ∧ (Dfl M fd ps d ∧ Kwd M fd ps d)
theorem start_rl {K : PySem.W.Frag} {H : Hp} {m : List Addr} {d : FD} {N : List Str} {args : List PV} {vs : List V} (rv : RVs K H m args vs) (hN : N.length = d.ns) : RL K H m (startL d args) (L2.start N vs) := by
  unfold startL L2.start
  have el := rv.len
  refine ⟨by simp [el, hN], fun i v e => ?_⟩
  by_cases hi : i < args.length
  · rw [List.getElem?_append_left (by simpa using hi), List.getElem?_map] at e
    cases ea : args[i]? with
    | none => rw [ea] at e; cases e
    | some a =>
      rw [ea] at e
      have e' : a = v := Option.some.inj (Option.some.inj e)
      subst e'
      obtain ⟨w, e2, r⟩ := rv.get ea
      exact ⟨w, by rw [List.getElem?_append_left (by simpa [← el] using hi), List.getElem?_map, e2] <;> rfl, r⟩
  · rw [List.getElem?_append_right (by simpa using hi), List.getElem?_replicate] at e
    split at e <;> cases e
section
variable {M : Mo} {P : Program} {w : World} {mg : Str → Option Value} {base : Heap}
theorem fn_one (glo : Glo M mg) (fng : ∀ f, M.gf f = true → mg (M.nm f) = some (.ref (M.fa f))) {k f : Nat} {d : FD} (hf : M.G.fn f = some d) (cls : ∀ c cd, M.G.cls c = some cd → ClsOk M mg c cd) (ih : ∀ j, j ≤ k → ∀ f d, M.G.fn f = some d → FnC M P w mg base j f d (M.fa f))
    {x qual : Str} {params : Arguments} {body : List Stmt} {scope : Scope} {dvs : List V} {kws : List (Str × V)} {N ps : List Str} {fd : FuncData}
    (F : FunD M.K x qual params body scope dvs kws (M.fa f) fd) (S : FnScope N ps scope) (h1 : ps.length = d.np) (h2 : N.length = d.ns) (h3 : mB M.toMe true N scope.names d.body body = true) :
    FnG P w M.K mg base (L2.CX P w) (k + 1) (M.fa f) fd ps (spF M (k + 1) f d.np) := by
  refine fnG_of F S (fun {vs H Q E} ⟨m, h, args, _, rv, hl, q⟩ => by rw [← rv.len, hl, h1]) (fun cdv A outer s H vs Q E hgd hr hsp => ?_)
  obtain ⟨m, h, args, rh, rv, hl, q⟩ := hsp
  have g : GoodS M (cxOf (L2.CX P w) P w M.K mg base N qual scope (M.fa f) cdv A outer s H E) N scope.names (fun cls d _ H => E cls d H) k true :=
    ⟨⟨rfl, S.nd, rfl, rfl, rfl, takes_of rfl rfl rfl rfl, hr, hgd, S.kind, glo, ih, cls, fng⟩, passes_of rfl, fun _ _ _ => rfl⟩
  refine ⟨_, sBk d.body _ N scope.names _ true body g h3, ?_⟩
  obtain ⟨d', hf', l1, l2, q⟩ := q
  rw [hf] at hf'; cases hf'
  have e0 : fill d.dfl args d.np = args := by
    show args ++ d.dfl.drop (d.dfl.length - (d.np - args.length)) = args
    rw [hl, Nat.sub_self, Nat.sub_zero, List.drop_length, List.append_nil]
  rw [e0] at q
  refine ⟨m, startL d args, h, rh, start_rl rv h2, evB_mono (csle M k) d.body _ _ ⟨fun _ h' => LQ M m H Q .non h', LQ M m H Q, fun _ _ => False, fun x _ h' => LE M E m H x h'⟩ _ ⟨?_, ?_, ?_, ?_⟩ q⟩
  · exact fun l h q m' H' σ' e k r rl => q m' H' .non e k r rfl
  · exact fun v h q => q
  · exact fun l h q => (show False from q).elim
  · exact fun x l h q m' H' σ' c d e k r rl rx => q m' H' c d e k r rx
theorem funs_ok (glo : Glo M mg) (fng : ∀ f, M.gf f = true → mg (M.nm f) = some (.ref (M.fa f))) (cls : ∀ c cd, M.G.cls c = some cd → ClsOk M mg c cd) (hall : ∀ f d, M.G.fn f = some d → Ent M f d) :
    ∀ k j, j ≤ k → ∀ f d, M.G.fn f = some d → FnC M P w mg base j f d (M.fa f)
  | k, 0, _, f, d, hf => by
    obtain ⟨x, qual, params, body, scope, dvs, kws, N, ps, fd, F, S, h1, h2, h3, h4⟩ := (hall f d hf).ex
    exact ⟨fd, ps, ⟨fun {vs H Q E} ⟨m, h, args, _, _, _, q⟩ => (show False from q).elim, fun {A outer s H args us vs Q E} _ _ _ _ _ ⟨m, h, as, _, _, _, q⟩ => (show False from q).elim⟩, ⟨F.kp, h4.2⟩, h4.1⟩
  | 0, j + 1, hj, f, d, hf => absurd hj (Nat.not_succ_le_zero j)
  | k + 1, j + 1, hj, f, d, hf => by
    have ih : ∀ i, i ≤ j → ∀ f d, M.G.fn f = some d → FnC M P w mg base i f d (M.fa f) := fun i hi => funs_ok glo fng cls hall k i (Nat.le_trans hi (Nat.le_of_succ_le_succ hj))
    obtain ⟨x, qual, params, body, scope, dvs, kws, N, ps, fd, F, S, h1, h2, h3, h4⟩ := (hall f d hf).ex
    exact ⟨fd, ps, fn_one glo fng hf cls ih F S h1 h2 h3, ⟨F.kp, h4.2⟩, h4.1⟩
theorem dfl0 {fd : FuncData} {ps : List Str} {d : FD} (b : Binds M.K fd ps []) (e : d.dfl = []) : Dfl M fd ps d := fun n hn hl => by
  rw [e]
  exact ⟨[], [], .nil, b, fun H m => by rw [List.drop_nil]; rfl⟩
theorem vals_take {vs : List V} {us : List Value} (h : Vals vs us) : ∀ n : Nat, Vals (vs.take n) (us.take n) := by
  induction h with
  | nil => intro n; cases n <;> exact .nil
  | cons r _ ih => intro n; cases n with
    | zero => exact .nil
    | succ n => exact .cons r (ih n)
theorem kwd0 {fd : FuncData} {ps : List Str} {d : FD} (e : d.kw = none) : Kwd M fd ps d := fun x hx => by rw [e] at hx; cases hx
/-- the law's promise -/
theorem law_sp {k fL : Nat} {dL : FD} {n : Nat} (hf : M.G.fn fL = some dL) (h1 : dL.np = 1)
    (law : ∀ ns : List Int, ns.length ≤ n → callS M.G k (.fn fL) [.ref 0] [.frl (ns.map PV.int)] (fun v _ => v = .bl true) (fun _ _ => False))
    (H : Hp) (a : Addr) (ns : List Int) (hl : ns.length ≤ n) (hO : Only H) (hS : SqL M.K H a (ns.map V.int)) : spF M k fL 1 [.ref a] H (fun v _ => v = .bl true) (fun _ _ _ => False) := by
  have rints : ∀ ns : List Int, RVs M.K H [a] (ns.map PV.int) (ns.map V.int) := fun ns => by
    induction ns with
    | nil => rfl
    | cons i r ih => exact ⟨_, _, rfl, rfl, ih⟩
  refine ⟨[a], [.frl (ns.map PV.int)], [.ref 0], ⟨rfl, fun b o p e1 e2 => ?_, fun b c p o u e1 e2 e3 e4 n1 n2 => ?_⟩, RVs.one ⟨a, rfl, rfl⟩, rfl, callS_mono (fun v h e m' H' w _ _ _ rv => ?_) (fun x h z => z.elim) (law ns hl)⟩
  · cases b with
    | zero =>
      cases (show PO.frl (ns.map PV.int) = o from Option.some.inj e1)
      cases (show a = p from Option.some.inj e2)
      refine ⟨ns.map V.int, ?_, rints ns⟩
      rcases hS with (hS | ⟨ob, hS⟩) | hS
      · rcases hO a with z | ⟨ob, xs, z⟩
        · rw [hS] at z; cases z
        · rw [hS] at z; cases z
      · exact .inl ⟨ob, hS⟩
      · exact .inr hS
    | succ b => simp at e1
  · cases b with
    | zero =>
      cases (show PO.frl (ns.map PV.int) = o from Option.some.inj e3)
      cases n1
    | succ b => simp at e3
  · subst e
    exact rv
end
theorem walk_ofG {l : PySem.W.OpenLaw} {n k : Nat} {q : Program} {loose : List Str} {XP : (Str → Option Value) → Heap → Prop} {YP : World → Heap → Prop} {d : DefRec} {x : Str}
    (hn : l.most = some n) (hn2 : n ≤ sizeLine) (hdf : d.params.defaults = []) (hr : Room k callerA)
    (F : ∀ (w : World) (mg : Str → Option Value) (fa : Addr) (h : Heap), YP w h → h.Ns mainGlobals mg → mg d.name = some (.ref fa) →
      ∃ (K : PySem.W.Frag) (fd : FuncData) (sp : Sp), K.In h ∧ (∀ (s : Shared) (u : Value), BindsTo s fd ⟨[u], []⟩ [(x, u)]) ∧
        (∀ (H : Hp) (a : Addr) (ns : List Int), ns.length ≤ n → Only H → SqL K H a (ns.map V.int) → sp [.ref a] H (fun v _ => v = .bl true) fun _ _ _ => False) ∧
        ∀ base : Heap, K.In base → base.Ns mainGlobals mg → FnG l.prog w K mg base (L2.CX l.prog w) k fa fd [x] sp) :
    PySem.W.WalkO q loose XP YP l.row.toRowW d [] (fun f vs => PySem.call f vs) := by
  refine Att.attach_call hn hdf fun w s₀ s₁ mg mb fa o pm cd doc a vs ns G Y ho hd hcd hmg hobj hints hlen hg => ?_
  obtain ⟨K, fd, sp, KX, hb, hsp, hF⟩ := F w mg fa _ Y G.T.g hmg
  refine law_callG KX G.T.g G.T.b G.T.builtins G.T.nolimit hg hobj hints (Nat.le_trans hlen hn2) hr hF hb (fun H hO hS => hsp H a ns hlen hO hS) fun H e s' c => ?_
  obtain ⟨_, _, _, _, _, _, _, _, _, _, _, _, z⟩ := c
  exact z
theorem SaysD.mem {fa : List He.Fa} {fn : List He.DefD} {K : PySem.W.Frag} (c : He.SaysD fa fn K) {f : He.Fa} (h : f ∈ fa) : f.ok K = true := by
  obtain ⟨i, e⟩ := List.getElem?_of_mem h
  exact c.fact i e
mutual
theorem chkV_ok {K : PySem.W.Frag} : ∀ (v : PV) (u : Value), chkV K v u = true → ∃ w, RelV w u ∧ ∀ H m, RV K H m v w
  | .non, u, h => by
    cases u with
    | none => exact ⟨.non, rfl, fun _ _ => rfl⟩
    | _ => cases h
  | .bl b, u, h => by
    cases u with
    | bool c => cases eq_of_beq (show (b == c) = true from h); exact ⟨.bl b, rfl, fun _ _ => rfl⟩
    | _ => cases h
  | .int i, u, h => by
    cases u with
    | int j t => cases of_decide_eq_true (show decide (i = j) = true from h); exact ⟨.int i, ⟨t, rfl⟩, fun _ _ => rfl⟩
    | _ => cases h
  | .str i, u, h => by
    cases u with
    | str j t => cases of_decide_eq_true (show decide (i = j) = true from h); exact ⟨.str i, ⟨t, rfl⟩, fun _ _ => rfl⟩
    | _ => cases h
  | .tup xs, u, h => by
    cases u with
    | ref a =>
      have h : (match K.lookup a with
        | some ⟨.type c, _, .seq its _, _⟩ => decide (c = "tuple") && (decide (its.size ≤ sizeLine) && chkVs K xs its.toList)
        | _ => false) = true := h
      cases q : K.lookup a with
      | none => rw [q] at h; cases h
      | some o =>
        obtain ⟨oc, od, dt, osl⟩ := o
        rw [q] at h
        cases oc with
        | type c =>
          cases dt with
          | seq its n =>
            obtain ⟨h1, h2⟩ := ba (show (decide (c = "tuple") && (decide (its.size ≤ sizeLine) && chkVs K xs its.toList)) = true from h)
            obtain ⟨h3, h4⟩ := ba h2
            obtain ⟨ws, r1, r2⟩ := chkVs_ok xs its.toList h4
            exact ⟨.ref a, rfl, fun H m => ⟨a, ws, rfl, .inr ⟨_, its, n, q, congrArg Value.type (of_decide_eq_true h1), rfl, of_decide_eq_true h3, r1⟩, r2 H m⟩⟩
          | _ => cases h
        | _ => cases dt <;> cases h
    | _ => cases h
  | .ref a, u, h => by cases u <;> cases h
theorem chkVs_ok {K : PySem.W.Frag} : ∀ (v : List PV) (u : List Value), chkVs K v u = true → ∃ w, Vals w u ∧ ∀ H m, RVs K H m v w
  | [], [], _ => ⟨[], .nil, fun _ _ => rfl⟩
  | [], _ :: _, h => by cases h
  | _ :: _, [], h => by cases h
  | x :: xs, u :: us, h => by
    obtain ⟨h1, h2⟩ := ba (show (chkV K x u && chkVs K xs us) = true from h)
    obtain ⟨w, r1, r2⟩ := chkV_ok x u h1
    obtain ⟨ws, s1, s2⟩ := chkVs_ok xs us h2
    exact ⟨w :: ws, .cons r1 s1, fun H m => ⟨w, ws, rfl, r2 H m, s2 H m⟩⟩
end
theorem chkC_ok {K : PySem.W.Frag} {h : Heap} {mg : Str → Option Value} {nm : Nat → Str} {l : List (Nat × PV)} (X : K.In h) (G : h.Ns mainGlobals mg) (c : chkC nm l K = true) : ∀ g v, getN g l = some v → ∃ u w, mg (nm g) = some u ∧ RelV w u ∧ ∀ H m, RV K H m v w := by
  intro g v e
  have mem : (g, v) ∈ l := by
    induction l with
    | nil => cases e
    | cons p r ih =>
      obtain ⟨f, x⟩ := p
      unfold getN at e
      split at e
      · rename_i z; cases e; subst z; exact List.mem_cons_self
      · exact List.mem_cons_of_mem _ (ih (Bool.and_eq_true_iff.mp (show (_ && chkC nm r K) = true from c)).2 e)
  have c1 := List.all_eq_true.mp c _ mem
  dsimp only at c1
  split at c1
  · rename_i u hu
    obtain ⟨w, r1, r2⟩ := chkV_ok v u c1
    exact ⟨u, w, PySem.W.mg_of X G hu, r1, r2⟩
  · cases c1
theorem chkM_ok {K : PySem.W.Frag} {x m : Str} {p : Str × Option Str} (c : chkM K x m p = true) : Meth K (He.ga K x) m (He.fAd K p) := by
  obtain ⟨c1, c⟩ := ba c
  obtain ⟨c2, c3⟩ := ba c
  exact ⟨He.eqO_ok c1, c2, c3⟩
theorem chkK_ok {K : PySem.W.Frag} {x : Str} {p : Str × Option Str} (c : chkK K x p = true) : Mk K (He.ga K x) (He.fAd K p) := by
  obtain ⟨c1, c⟩ := ba c
  obtain ⟨c2, c⟩ := ba c
  obtain ⟨c3, c4⟩ := ba c
  exact ⟨c1, He.eqO_ok c2, c3, c4⟩
theorem chkI_ok {K : PySem.W.Frag} {x : Str} {p : Str × Option Str} (c : chkI K x p = true) : InD K (He.ga K x) (He.fAd K p) := by
  obtain ⟨c1, c⟩ := ba c
  obtain ⟨c2, c3⟩ := ba c
  refine ⟨c1, He.eqO_ok c2, ?_⟩
  split at c3
  · rename_i a e
    rw [e, of_decide_eq_true c3]
  · cases c3
theorem chkB_ok {K : PySem.W.Frag} {x : Str} (c : chkB K x = true) : Bare K (He.ga K x) := by
  obtain ⟨c1, c⟩ := ba c
  obtain ⟨c2, c⟩ := ba c
  obtain ⟨c3, c4⟩ := ba c
  exact ⟨c1, He.eqO_ok c2, of_decide_eq_true c3, c4⟩
theorem chkD_ok {M : Mo} {at_ : Nat → Str × Option Str} {c : Nat} {cd : CD} {h : Heap} {mg : Str → Option Value} (X : M.K.In h) (G : h.Ns mainGlobals mg) (hc : M.ca c = He.ga M.K (M.nm c)) (hf : ∀ f, M.fa f = He.fAd M.K (at_ f)) (k : chkD M.nm at_ c cd M.K = true) (p : plnD M.nm M.G.fn cd = true) : ClsOk M mg c cd := by
  obtain ⟨k1, k2⟩ := ba k
  obtain ⟨k3, k4⟩ := ba k1
  obtain ⟨k5, k6⟩ := ba k4
  obtain ⟨k6, k9⟩ := ba k6
  obtain ⟨k7, k8⟩ := ba k2
  obtain ⟨p1, p2⟩ := ba p
  obtain ⟨p3, p4⟩ := ba p2
  refine ⟨by rw [hc]; exact He.cls_ok k3, fun f hm => by rw [hc]; exact He.noat_ok (List.all_eq_true.mp k7 f hm), fun f h1 g h2 e => of_decide_eq_true (List.all_eq_true.mp (List.all_eq_true.mp p3 f h1) g h2) e, fun m f e => ?_, fun nb => by rw [hc, hf]; rw [nb] at k6; exact chkK_ok (by simpa using k6), fun nb => by rw [nb] at p1; simpa using p1, fun hb => by rw [hc]; rw [hb] at k6; exact chkB_ok (by simpa using k6), by rw [hc]; exact He.glo_ok X G k5, fun hb => by rw [hc, hf]; rw [hb] at k9; exact chkI_ok (Bool.and_eq_true_iff.mp (show (true && chkI M.K (M.nm c) (at_ cd.init)) = true from k9)).2⟩
  obtain ⟨q1, q2⟩ := ba (List.all_eq_true.mp p4 _ (getM_mem e))
  exact ⟨by rw [hc, hf]; exact chkM_ok (List.all_eq_true.mp k8 _ (getM_mem e)), of_decide_eq_true q2, q1⟩
end Py

set_option Elab.async false
set_option linter.all false
set_option maxRecDepth 100000
set_option maxHeartbeats 0
/-! The link of law 15 (printed by gen.py). -/
namespace Py
open PySem PySem.Spec PyProof.Rows L2
def meT : Me := ⟨nmT, gfT, sgT⟩
abbrev moT (K : PySem.W.Frag) : Mo := ⟨meT, K, fun c => He.ga K (nmT c), fun f => He.fAd K (atT f)⟩
theorem gm__wall : mB meT true ["k"] (defScope gs__wall).names b__wall (defBody gs__wall) = true := by decide +kernel
theorem gc__wall : FnScope ["k"] ["k"] (defScope gs__wall) := C8.fnScope_by (by decide +kernel)
theorem gen__wall {K : PySem.W.Frag} (c : He.SaysD faT fnT K) : Ent (moT K) n__wall d__wall := by
  obtain ⟨fd, F⟩ := c.def_ 0 (d := ge__wall) rfl
  have F' : FunD K ge__wall.name ge__wall.qual ge__wall.params ge__wall.body ge__wall.scope [] (ge__wall.kws K) ((moT K).fa n__wall) fd := F
  exact ⟨_, _, _, _, _, _, _, _, _, fd, F', gc__wall, rfl, rfl, gm__wall, dfl0 (F'.bindsN (ps := ["k"]) fun _ _ _ _ _ _ us hl => match us, hl with | [_], _ => rfl) rfl, kwd0 rfl⟩
theorem gm_plains : mB meT true ["terms", "term"] (defScope gs_plains).names b_plains (defBody gs_plains) = true := by decide +kernel
theorem gc_plains : FnScope ["terms", "term"] ["terms"] (defScope gs_plains) := C8.fnScope_by (by decide +kernel)
theorem gen_plains {K : PySem.W.Frag} (c : He.SaysD faT fnT K) : Ent (moT K) n_plains d_plains := by
  obtain ⟨fd, F⟩ := c.def_ 1 (d := ge_plains) rfl
  have F' : FunD K ge_plains.name ge_plains.qual ge_plains.params ge_plains.body ge_plains.scope [] (ge_plains.kws K) ((moT K).fa n_plains) fd := F
  exact ⟨_, _, _, _, _, _, _, _, _, fd, F', gc_plains, rfl, rfl, gm_plains, dfl0 (F'.bindsN (ps := ["terms"]) fun _ _ _ _ _ _ us hl => match us, hl with | [_], _ => rfl) rfl, kwd0 rfl⟩
theorem gm_leaf_of : mB meT true ["plain"] (defScope gs_leaf_of).names b_leaf_of (defBody gs_leaf_of) = true := by decide +kernel
theorem gc_leaf_of : FnScope ["plain"] ["plain"] (defScope gs_leaf_of) := C8.fnScope_by (by decide +kernel)
theorem gen_leaf_of {K : PySem.W.Frag} (c : He.SaysD faT fnT K) : Ent (moT K) n_leaf_of d_leaf_of := by
  obtain ⟨fd, F⟩ := c.def_ 2 (d := ge_leaf_of) rfl
  have F' : FunD K ge_leaf_of.name ge_leaf_of.qual ge_leaf_of.params ge_leaf_of.body ge_leaf_of.scope [] (ge_leaf_of.kws K) ((moT K).fa n_leaf_of) fd := F
  exact ⟨_, _, _, _, _, _, _, _, _, fd, F', gc_leaf_of, rfl, rfl, gm_leaf_of, dfl0 (F'.bindsN (ps := ["plain"]) fun _ _ _ _ _ _ us hl => match us, hl with | [_], _ => rfl) rfl, kwd0 rfl⟩
theorem gm_thing_term_of : mB meT true ["plain", "part"] (defScope gs_thing_term_of).names b_thing_term_of (defBody gs_thing_term_of) = true := by decide +kernel
theorem gc_thing_term_of : FnScope ["plain", "part"] ["plain"] (defScope gs_thing_term_of) := C8.fnScope_by (by decide +kernel)
theorem gen_thing_term_of {K : PySem.W.Frag} (c : He.SaysD faT fnT K) : Ent (moT K) n_thing_term_of d_thing_term_of := by
  obtain ⟨fd, F⟩ := c.def_ 3 (d := ge_thing_term_of) rfl
  have F' : FunD K ge_thing_term_of.name ge_thing_term_of.qual ge_thing_term_of.params ge_thing_term_of.body ge_thing_term_of.scope [] (ge_thing_term_of.kws K) ((moT K).fa n_thing_term_of) fd := F
  exact ⟨_, _, _, _, _, _, _, _, _, fd, F', gc_thing_term_of, rfl, rfl, gm_thing_term_of, dfl0 (F'.bindsN (ps := ["plain"]) fun _ _ _ _ _ _ us hl => match us, hl with | [_], _ => rfl) rfl, kwd0 rfl⟩
theorem gm_term_of : mB meT true ["plain", "found"] (defScope gs_term_of).names b_term_of (defBody gs_term_of) = true := by decide +kernel
theorem gc_term_of : FnScope ["plain", "found"] ["plain"] (defScope gs_term_of) := C8.fnScope_by (by decide +kernel)
theorem gen_term_of {K : PySem.W.Frag} (c : He.SaysD faT fnT K) : Ent (moT K) n_term_of d_term_of := by
  obtain ⟨fd, F⟩ := c.def_ 4 (d := ge_term_of) rfl
  have F' : FunD K ge_term_of.name ge_term_of.qual ge_term_of.params ge_term_of.body ge_term_of.scope [] (ge_term_of.kws K) ((moT K).fa n_term_of) fd := F
  exact ⟨_, _, _, _, _, _, _, _, _, fd, F', gc_term_of, rfl, rfl, gm_term_of, dfl0 (F'.bindsN (ps := ["plain"]) fun _ _ _ _ _ _ us hl => match us, hl with | [_], _ => rfl) rfl, kwd0 rfl⟩
theorem gm__law_cell_at : mB meT true ["_law_script", "_law_k"] (defScope gs__law_cell_at).names b__law_cell_at (defBody gs__law_cell_at) = true := by decide +kernel
theorem gc__law_cell_at : FnScope ["_law_script", "_law_k"] ["_law_script", "_law_k"] (defScope gs__law_cell_at) := C8.fnScope_by (by decide +kernel)
theorem gen__law_cell_at {K : PySem.W.Frag} (c : He.SaysD faT fnT K) : Ent (moT K) n__law_cell_at d__law_cell_at := by
  obtain ⟨fd, F⟩ := c.def_ 5 (d := ge__law_cell_at) rfl
  have F' : FunD K ge__law_cell_at.name ge__law_cell_at.qual ge__law_cell_at.params ge__law_cell_at.body ge__law_cell_at.scope [] (ge__law_cell_at.kws K) ((moT K).fa n__law_cell_at) fd := F
  exact ⟨_, _, _, _, _, _, _, _, _, fd, F', gc__law_cell_at, rfl, rfl, gm__law_cell_at, dfl0 (F'.bindsN (ps := ["_law_script", "_law_k"]) fun _ _ _ _ _ _ us hl => match us, hl with | [_, _], _ => rfl) rfl, kwd0 rfl⟩
theorem gm__law_mixed : mB meT true ["_law_cell", "_law_k"] (defScope gs__law_mixed).names b__law_mixed (defBody gs__law_mixed) = true := by decide +kernel
theorem gc__law_mixed : FnScope ["_law_cell", "_law_k"] ["_law_cell", "_law_k"] (defScope gs__law_mixed) := C8.fnScope_by (by decide +kernel)
theorem gen__law_mixed {K : PySem.W.Frag} (c : He.SaysD faT fnT K) : Ent (moT K) n__law_mixed d__law_mixed := by
  obtain ⟨fd, F⟩ := c.def_ 6 (d := ge__law_mixed) rfl
  have F' : FunD K ge__law_mixed.name ge__law_mixed.qual ge__law_mixed.params ge__law_mixed.body ge__law_mixed.scope [] (ge__law_mixed.kws K) ((moT K).fa n__law_mixed) fd := F
  exact ⟨_, _, _, _, _, _, _, _, _, fd, F', gc__law_mixed, rfl, rfl, gm__law_mixed, dfl0 (F'.bindsN (ps := ["_law_cell", "_law_k"]) fun _ _ _ _ _ _ us hl => match us, hl with | [_, _], _ => rfl) rfl, kwd0 rfl⟩
theorem gm__law_name : mB meT true ["_law_k", "_law_shift", "_law_letters", "_law_told", "_law_rest", "_law_size", "_law_at", "_law_first", "_law_name_here", "_law_word", "_law_j"] (defScope gs__law_name).names b__law_name (defBody gs__law_name) = true := by decide +kernel
theorem gc__law_name : FnScope ["_law_k", "_law_shift", "_law_letters", "_law_told", "_law_rest", "_law_size", "_law_at", "_law_first", "_law_name_here", "_law_word", "_law_j"] ["_law_k", "_law_shift"] (defScope gs__law_name) := C8.fnScope_by (by decide +kernel)
theorem gen__law_name {K : PySem.W.Frag} (c : He.SaysD faT fnT K) : Ent (moT K) n__law_name d__law_name := by
  obtain ⟨fd, F⟩ := c.def_ 7 (d := ge__law_name) rfl
  have F' : FunD K ge__law_name.name ge__law_name.qual ge__law_name.params ge__law_name.body ge__law_name.scope [] (ge__law_name.kws K) ((moT K).fa n__law_name) fd := F
  exact ⟨_, _, _, _, _, _, _, _, _, fd, F', gc__law_name, rfl, rfl, gm__law_name, dfl0 (F'.bindsN (ps := ["_law_k", "_law_shift"]) fun _ _ _ _ _ _ us hl => match us, hl with | [_, _], _ => rfl) rfl, kwd0 rfl⟩
theorem gm__law_atom : mB meT true ["_law_cell", "_law_shift"] (defScope gs__law_atom).names b__law_atom (defBody gs__law_atom) = true := by decide +kernel
theorem gc__law_atom : FnScope ["_law_cell", "_law_shift"] ["_law_cell", "_law_shift"] (defScope gs__law_atom) := C8.fnScope_by (by decide +kernel)
theorem gen__law_atom {K : PySem.W.Frag} (c : He.SaysD faT fnT K) : Ent (moT K) n__law_atom d__law_atom := by
  obtain ⟨fd, F⟩ := c.def_ 8 (d := ge__law_atom) rfl
  have F' : FunD K ge__law_atom.name ge__law_atom.qual ge__law_atom.params ge__law_atom.body ge__law_atom.scope [] (ge__law_atom.kws K) ((moT K).fa n__law_atom) fd := F
  exact ⟨_, _, _, _, _, _, _, _, _, fd, F', gc__law_atom, rfl, rfl, gm__law_atom, dfl0 (F'.bindsN (ps := ["_law_cell", "_law_shift"]) fun _ _ _ _ _ _ us hl => match us, hl with | [_, _], _ => rfl) rfl, kwd0 rfl⟩
theorem gm__law_taken : mB meT true ["_law_stack", "_law_many", "_law_some", "_law_k", "_law_pair"] (defScope gs__law_taken).names b__law_taken (defBody gs__law_taken) = true := by decide +kernel
theorem gc__law_taken : FnScope ["_law_stack", "_law_many", "_law_some", "_law_k", "_law_pair"] ["_law_stack", "_law_many"] (defScope gs__law_taken) := C8.fnScope_by (by decide +kernel)
theorem gen__law_taken {K : PySem.W.Frag} (c : He.SaysD faT fnT K) : Ent (moT K) n__law_taken d__law_taken := by
  obtain ⟨fd, F⟩ := c.def_ 9 (d := ge__law_taken) rfl
  have F' : FunD K ge__law_taken.name ge__law_taken.qual ge__law_taken.params ge__law_taken.body ge__law_taken.scope [] (ge__law_taken.kws K) ((moT K).fa n__law_taken) fd := F
  exact ⟨_, _, _, _, _, _, _, _, _, fd, F', gc__law_taken, rfl, rfl, gm__law_taken, dfl0 (F'.bindsN (ps := ["_law_stack", "_law_many"]) fun _ _ _ _ _ _ us hl => match us, hl with | [_, _], _ => rfl) rfl, kwd0 rfl⟩
theorem gm__law_about : mB meT true ["_law_stack", "_law_cell", "_law_shift", "_law_name_here", "_law_terms", "_law_deep", "_law_many"] (defScope gs__law_about).names b__law_about (defBody gs__law_about) = true := by decide +kernel
theorem gc__law_about : FnScope ["_law_stack", "_law_cell", "_law_shift", "_law_name_here", "_law_terms", "_law_deep", "_law_many"] ["_law_stack", "_law_cell", "_law_shift"] (defScope gs__law_about) := C8.fnScope_by (by decide +kernel)
theorem gen__law_about {K : PySem.W.Frag} (c : He.SaysD faT fnT K) : Ent (moT K) n__law_about d__law_about := by
  obtain ⟨fd, F⟩ := c.def_ 10 (d := ge__law_about) rfl
  have F' : FunD K ge__law_about.name ge__law_about.qual ge__law_about.params ge__law_about.body ge__law_about.scope [] (ge__law_about.kws K) ((moT K).fa n__law_about) fd := F
  exact ⟨_, _, _, _, _, _, _, _, _, fd, F', gc__law_about, rfl, rfl, gm__law_about, dfl0 (F'.bindsN (ps := ["_law_stack", "_law_cell", "_law_shift"]) fun _ _ _ _ _ _ us hl => match us, hl with | [_, _, _], _ => rfl) rfl, kwd0 rfl⟩
theorem gm__law_joined : mB meT true ["_law_stack", "_law_cell", "_law_shift", "_law_name_here", "_law_terms", "_law_deep"] (defScope gs__law_joined).names b__law_joined (defBody gs__law_joined) = true := by decide +kernel
theorem gc__law_joined : FnScope ["_law_stack", "_law_cell", "_law_shift", "_law_name_here", "_law_terms", "_law_deep"] ["_law_stack", "_law_cell", "_law_shift"] (defScope gs__law_joined) := C8.fnScope_by (by decide +kernel)
theorem gen__law_joined {K : PySem.W.Frag} (c : He.SaysD faT fnT K) : Ent (moT K) n__law_joined d__law_joined := by
  obtain ⟨fd, F⟩ := c.def_ 11 (d := ge__law_joined) rfl
  have F' : FunD K ge__law_joined.name ge__law_joined.qual ge__law_joined.params ge__law_joined.body ge__law_joined.scope [] (ge__law_joined.kws K) ((moT K).fa n__law_joined) fd := F
  exact ⟨_, _, _, _, _, _, _, _, _, fd, F', gc__law_joined, rfl, rfl, gm__law_joined, dfl0 (F'.bindsN (ps := ["_law_stack", "_law_cell", "_law_shift"]) fun _ _ _ _ _ _ us hl => match us, hl with | [_, _, _], _ => rfl) rfl, kwd0 rfl⟩
theorem gm__law_term : mB meT true ["_law_cells", "_law_shift", "_law_stack", "_law_k", "_law_cell", "_law_pair"] (defScope gs__law_term).names b__law_term (defBody gs__law_term) = true := by decide +kernel
theorem gc__law_term : FnScope ["_law_cells", "_law_shift", "_law_stack", "_law_k", "_law_cell", "_law_pair"] ["_law_cells", "_law_shift"] (defScope gs__law_term) := C8.fnScope_by (by decide +kernel)
theorem gen__law_term {K : PySem.W.Frag} (c : He.SaysD faT fnT K) : Ent (moT K) n__law_term d__law_term := by
  obtain ⟨fd, F⟩ := c.def_ 12 (d := ge__law_term) rfl
  have F' : FunD K ge__law_term.name ge__law_term.qual ge__law_term.params ge__law_term.body ge__law_term.scope [] (ge__law_term.kws K) ((moT K).fa n__law_term) fd := F
  exact ⟨_, _, _, _, _, _, _, _, _, fd, F', gc__law_term, rfl, rfl, gm__law_term, dfl0 (F'.bindsN (ps := ["_law_cells", "_law_shift"]) fun _ _ _ _ _ _ us hl => match us, hl with | [_, _], _ => rfl) rfl, kwd0 rfl⟩
theorem gm__law_parts : mB meT true ["_law_term_here", "_law_found", "_law_part"] (defScope gs__law_parts).names b__law_parts (defBody gs__law_parts) = true := by decide +kernel
theorem gc__law_parts : FnScope ["_law_term_here", "_law_found", "_law_part"] ["_law_term_here"] (defScope gs__law_parts) := C8.fnScope_by (by decide +kernel)
theorem gen__law_parts {K : PySem.W.Frag} (c : He.SaysD faT fnT K) : Ent (moT K) n__law_parts d__law_parts := by
  obtain ⟨fd, F⟩ := c.def_ 13 (d := ge__law_parts) rfl
  have F' : FunD K ge__law_parts.name ge__law_parts.qual ge__law_parts.params ge__law_parts.body ge__law_parts.scope [] (ge__law_parts.kws K) ((moT K).fa n__law_parts) fd := F
  exact ⟨_, _, _, _, _, _, _, _, _, fd, F', gc__law_parts, rfl, rfl, gm__law_parts, dfl0 (F'.bindsN (ps := ["_law_term_here"]) fun _ _ _ _ _ _ us hl => match us, hl with | [_], _ => rfl) rfl, kwd0 rfl⟩
theorem gm__law_measured : mB meT true ["_law_term_here", "_law_rows", "_law_part", "_law_row"] (defScope gs__law_measured).names b__law_measured (defBody gs__law_measured) = true := by decide +kernel
theorem gc__law_measured : FnScope ["_law_term_here", "_law_rows", "_law_part", "_law_row"] ["_law_term_here"] (defScope gs__law_measured) := C8.fnScope_by (by decide +kernel)
theorem gen__law_measured {K : PySem.W.Frag} (c : He.SaysD faT fnT K) : Ent (moT K) n__law_measured d__law_measured := by
  obtain ⟨fd, F⟩ := c.def_ 14 (d := ge__law_measured) rfl
  have F' : FunD K ge__law_measured.name ge__law_measured.qual ge__law_measured.params ge__law_measured.body ge__law_measured.scope [] (ge__law_measured.kws K) ((moT K).fa n__law_measured) fd := F
  exact ⟨_, _, _, _, _, _, _, _, _, fd, F', gc__law_measured, rfl, rfl, gm__law_measured, dfl0 (F'.bindsN (ps := ["_law_term_here"]) fun _ _ _ _ _ _ us hl => match us, hl with | [_], _ => rfl) rfl, kwd0 rfl⟩
theorem gm__law_whole : mB meT true ["_law_found"] (defScope gs__law_whole).names b__law_whole (defBody gs__law_whole) = true := by decide +kernel
theorem gc__law_whole : FnScope ["_law_found"] ["_law_found"] (defScope gs__law_whole) := C8.fnScope_by (by decide +kernel)
theorem gen__law_whole {K : PySem.W.Frag} (c : He.SaysD faT fnT K) : Ent (moT K) n__law_whole d__law_whole := by
  obtain ⟨fd, F⟩ := c.def_ 15 (d := ge__law_whole) rfl
  have F' : FunD K ge__law_whole.name ge__law_whole.qual ge__law_whole.params ge__law_whole.body ge__law_whole.scope [] (ge__law_whole.kws K) ((moT K).fa n__law_whole) fd := F
  exact ⟨_, _, _, _, _, _, _, _, _, fd, F', gc__law_whole, rfl, rfl, gm__law_whole, dfl0 (F'.bindsN (ps := ["_law_found"]) fun _ _ _ _ _ _ us hl => match us, hl with | [_], _ => rfl) rfl, kwd0 rfl⟩
theorem gm_law : mB meT true ["_law_script", "_law_plain", "_law_waiting", "_law_held", "_law_term_here", "_law_due", "_law_found", "_law_parts_here", "_law_told", "_law_other", "_law_part", "_law_one", "_law_pair"] (defScope gs_law).names b_law (defBody gs_law) = true := by decide +kernel
theorem gc_law : FnScope ["_law_script", "_law_plain", "_law_waiting", "_law_held", "_law_term_here", "_law_due", "_law_found", "_law_parts_here", "_law_told", "_law_other", "_law_part", "_law_one", "_law_pair"] ["_law_script"] (defScope gs_law) := C8.fnScope_by (by decide +kernel)
theorem gen_law {K : PySem.W.Frag} (c : He.SaysD faT fnT K) : Ent (moT K) n_law d_law := by
  obtain ⟨fd, F⟩ := c.def_ 16 (d := ge_law) rfl
  have F' : FunD K ge_law.name ge_law.qual ge_law.params ge_law.body ge_law.scope [] (ge_law.kws K) ((moT K).fa n_law) fd := F
  exact ⟨_, _, _, _, _, _, _, _, _, fd, F', gc_law, rfl, rfl, gm_law, dfl0 (F'.bindsN (ps := ["_law_script"]) fun _ _ _ _ _ _ us hl => match us, hl with | [_], _ => rfl) rfl, kwd0 rfl⟩
theorem gm_Term___init__ : mB meT true ["self", "inner", "part"] (defScope gs_Term___init__).names b_Term___init__ (defBody gs_Term___init__) = true := by decide +kernel
theorem gc_Term___init__ : FnScope ["self", "inner", "part"] ["self", "inner"] (defScope gs_Term___init__) := C8.fnScope_by (by decide +kernel)
theorem gen_Term___init__ {K : PySem.W.Frag} (c : He.SaysD faT fnT K) : Ent (moT K) n_Term___init__ d_Term___init__ := by
  obtain ⟨fd, F⟩ := c.def_ 17 (d := ge_Term___init__) rfl
  have F' : FunD K ge_Term___init__.name ge_Term___init__.qual ge_Term___init__.params ge_Term___init__.body ge_Term___init__.scope [] (ge_Term___init__.kws K) ((moT K).fa n_Term___init__) fd := F
  exact ⟨_, _, _, _, _, _, _, _, _, fd, F', gc_Term___init__, rfl, rfl, gm_Term___init__, dfl0 (F'.bindsN (ps := ["self", "inner"]) fun _ _ _ _ _ _ us hl => match us, hl with | [_, _], _ => rfl) rfl, kwd0 rfl⟩
theorem gm_Term_meet : mB meT true ["self", "guest"] (defScope gs_Term_meet).names b_Term_meet (defBody gs_Term_meet) = true := by decide +kernel
theorem gc_Term_meet : FnScope ["self", "guest"] ["self", "guest"] (defScope gs_Term_meet) := C8.fnScope_by (by decide +kernel)
theorem gen_Term_meet {K : PySem.W.Frag} (c : He.SaysD faT fnT K) : Ent (moT K) n_Term_meet d_Term_meet := by
  obtain ⟨fd, F⟩ := c.def_ 18 (d := ge_Term_meet) rfl
  have F' : FunD K ge_Term_meet.name ge_Term_meet.qual ge_Term_meet.params ge_Term_meet.body ge_Term_meet.scope [] (ge_Term_meet.kws K) ((moT K).fa n_Term_meet) fd := F
  exact ⟨_, _, _, _, _, _, _, _, _, fd, F', gc_Term_meet, rfl, rfl, gm_Term_meet, dfl0 (F'.bindsN (ps := ["self", "guest"]) fun _ _ _ _ _ _ us hl => match us, hl with | [_, _], _ => rfl) rfl, kwd0 rfl⟩
theorem gm_Term_plain : mB meT true ["self"] (defScope gs_Term_plain).names b_Term_plain (defBody gs_Term_plain) = true := by decide +kernel
theorem gc_Term_plain : FnScope ["self"] ["self"] (defScope gs_Term_plain) := C8.fnScope_by (by decide +kernel)
theorem gen_Term_plain {K : PySem.W.Frag} (c : He.SaysD faT fnT K) : Ent (moT K) n_Term_plain d_Term_plain := by
  obtain ⟨fd, F⟩ := c.def_ 19 (d := ge_Term_plain) rfl
  have F' : FunD K ge_Term_plain.name ge_Term_plain.qual ge_Term_plain.params ge_Term_plain.body ge_Term_plain.scope [] (ge_Term_plain.kws K) ((moT K).fa n_Term_plain) fd := F
  exact ⟨_, _, _, _, _, _, _, _, _, fd, F', gc_Term_plain, rfl, rfl, gm_Term_plain, dfl0 (F'.bindsN (ps := ["self"]) fun _ _ _ _ _ _ us hl => match us, hl with | [_], _ => rfl) rfl, kwd0 rfl⟩
theorem gm_Term_parts : mB meT true ["self"] (defScope gs_Term_parts).names b_Term_parts (defBody gs_Term_parts) = true := by decide +kernel
theorem gc_Term_parts : FnScope ["self"] ["self"] (defScope gs_Term_parts) := C8.fnScope_by (by decide +kernel)
theorem gen_Term_parts {K : PySem.W.Frag} (c : He.SaysD faT fnT K) : Ent (moT K) n_Term_parts d_Term_parts := by
  obtain ⟨fd, F⟩ := c.def_ 20 (d := ge_Term_parts) rfl
  have F' : FunD K ge_Term_parts.name ge_Term_parts.qual ge_Term_parts.params ge_Term_parts.body ge_Term_parts.scope [] (ge_Term_parts.kws K) ((moT K).fa n_Term_parts) fd := F
  exact ⟨_, _, _, _, _, _, _, _, _, fd, F', gc_Term_parts, rfl, rfl, gm_Term_parts, dfl0 (F'.bindsN (ps := ["self"]) fun _ _ _ _ _ _ us hl => match us, hl with | [_], _ => rfl) rfl, kwd0 rfl⟩
theorem gm_Term_depth : mB meT true ["self"] (defScope gs_Term_depth).names b_Term_depth (defBody gs_Term_depth) = true := by decide +kernel
theorem gc_Term_depth : FnScope ["self"] ["self"] (defScope gs_Term_depth) := C8.fnScope_by (by decide +kernel)
theorem gen_Term_depth {K : PySem.W.Frag} (c : He.SaysD faT fnT K) : Ent (moT K) n_Term_depth d_Term_depth := by
  obtain ⟨fd, F⟩ := c.def_ 21 (d := ge_Term_depth) rfl
  have F' : FunD K ge_Term_depth.name ge_Term_depth.qual ge_Term_depth.params ge_Term_depth.body ge_Term_depth.scope [] (ge_Term_depth.kws K) ((moT K).fa n_Term_depth) fd := F
  exact ⟨_, _, _, _, _, _, _, _, _, fd, F', gc_Term_depth, rfl, rfl, gm_Term_depth, dfl0 (F'.bindsN (ps := ["self"]) fun _ _ _ _ _ _ us hl => match us, hl with | [_], _ => rfl) rfl, kwd0 rfl⟩
theorem gm_Term_size : mB meT true ["self"] (defScope gs_Term_size).names b_Term_size (defBody gs_Term_size) = true := by decide +kernel
theorem gc_Term_size : FnScope ["self"] ["self"] (defScope gs_Term_size) := C8.fnScope_by (by decide +kernel)
theorem gen_Term_size {K : PySem.W.Frag} (c : He.SaysD faT fnT K) : Ent (moT K) n_Term_size d_Term_size := by
  obtain ⟨fd, F⟩ := c.def_ 22 (d := ge_Term_size) rfl
  have F' : FunD K ge_Term_size.name ge_Term_size.qual ge_Term_size.params ge_Term_size.body ge_Term_size.scope [] (ge_Term_size.kws K) ((moT K).fa n_Term_size) fd := F
  exact ⟨_, _, _, _, _, _, _, _, _, fd, F', gc_Term_size, rfl, rfl, gm_Term_size, dfl0 (F'.bindsN (ps := ["self"]) fun _ _ _ _ _ _ us hl => match us, hl with | [_], _ => rfl) rfl, kwd0 rfl⟩
theorem gm_NumberTerm___init__ : mB meT true ["self", "number"] (defScope gs_NumberTerm___init__).names b_NumberTerm___init__ (defBody gs_NumberTerm___init__) = true := by decide +kernel
theorem gc_NumberTerm___init__ : FnScope ["self", "number"] ["self", "number"] (defScope gs_NumberTerm___init__) := C8.fnScope_by (by decide +kernel)
theorem gen_NumberTerm___init__ {K : PySem.W.Frag} (c : He.SaysD faT fnT K) : Ent (moT K) n_NumberTerm___init__ d_NumberTerm___init__ := by
  obtain ⟨fd, F⟩ := c.def_ 23 (d := ge_NumberTerm___init__) rfl
  have F' : FunD K ge_NumberTerm___init__.name ge_NumberTerm___init__.qual ge_NumberTerm___init__.params ge_NumberTerm___init__.body ge_NumberTerm___init__.scope [] (ge_NumberTerm___init__.kws K) ((moT K).fa n_NumberTerm___init__) fd := F
  exact ⟨_, _, _, _, _, _, _, _, _, fd, F', gc_NumberTerm___init__, rfl, rfl, gm_NumberTerm___init__, dfl0 (F'.bindsN (ps := ["self", "number"]) fun _ _ _ _ _ _ us hl => match us, hl with | [_, _], _ => rfl) rfl, kwd0 rfl⟩
theorem gm_NumberTerm_meet : mB meT true ["self", "guest"] (defScope gs_NumberTerm_meet).names b_NumberTerm_meet (defBody gs_NumberTerm_meet) = true := by decide +kernel
theorem gc_NumberTerm_meet : FnScope ["self", "guest"] ["self", "guest"] (defScope gs_NumberTerm_meet) := C8.fnScope_by (by decide +kernel)
theorem gen_NumberTerm_meet {K : PySem.W.Frag} (c : He.SaysD faT fnT K) : Ent (moT K) n_NumberTerm_meet d_NumberTerm_meet := by
  obtain ⟨fd, F⟩ := c.def_ 24 (d := ge_NumberTerm_meet) rfl
  have F' : FunD K ge_NumberTerm_meet.name ge_NumberTerm_meet.qual ge_NumberTerm_meet.params ge_NumberTerm_meet.body ge_NumberTerm_meet.scope [] (ge_NumberTerm_meet.kws K) ((moT K).fa n_NumberTerm_meet) fd := F
  exact ⟨_, _, _, _, _, _, _, _, _, fd, F', gc_NumberTerm_meet, rfl, rfl, gm_NumberTerm_meet, dfl0 (F'.bindsN (ps := ["self", "guest"]) fun _ _ _ _ _ _ us hl => match us, hl with | [_, _], _ => rfl) rfl, kwd0 rfl⟩
theorem gm_NumberTerm_plain : mB meT true ["self"] (defScope gs_NumberTerm_plain).names b_NumberTerm_plain (defBody gs_NumberTerm_plain) = true := by decide +kernel
theorem gc_NumberTerm_plain : FnScope ["self"] ["self"] (defScope gs_NumberTerm_plain) := C8.fnScope_by (by decide +kernel)
theorem gen_NumberTerm_plain {K : PySem.W.Frag} (c : He.SaysD faT fnT K) : Ent (moT K) n_NumberTerm_plain d_NumberTerm_plain := by
  obtain ⟨fd, F⟩ := c.def_ 25 (d := ge_NumberTerm_plain) rfl
  have F' : FunD K ge_NumberTerm_plain.name ge_NumberTerm_plain.qual ge_NumberTerm_plain.params ge_NumberTerm_plain.body ge_NumberTerm_plain.scope [] (ge_NumberTerm_plain.kws K) ((moT K).fa n_NumberTerm_plain) fd := F
  exact ⟨_, _, _, _, _, _, _, _, _, fd, F', gc_NumberTerm_plain, rfl, rfl, gm_NumberTerm_plain, dfl0 (F'.bindsN (ps := ["self"]) fun _ _ _ _ _ _ us hl => match us, hl with | [_], _ => rfl) rfl, kwd0 rfl⟩
theorem gm_TruthTerm___init__ : mB meT true ["self", "is_yes"] (defScope gs_TruthTerm___init__).names b_TruthTerm___init__ (defBody gs_TruthTerm___init__) = true := by decide +kernel
theorem gc_TruthTerm___init__ : FnScope ["self", "is_yes"] ["self", "is_yes"] (defScope gs_TruthTerm___init__) := C8.fnScope_by (by decide +kernel)
theorem gen_TruthTerm___init__ {K : PySem.W.Frag} (c : He.SaysD faT fnT K) : Ent (moT K) n_TruthTerm___init__ d_TruthTerm___init__ := by
  obtain ⟨fd, F⟩ := c.def_ 26 (d := ge_TruthTerm___init__) rfl
  have F' : FunD K ge_TruthTerm___init__.name ge_TruthTerm___init__.qual ge_TruthTerm___init__.params ge_TruthTerm___init__.body ge_TruthTerm___init__.scope [] (ge_TruthTerm___init__.kws K) ((moT K).fa n_TruthTerm___init__) fd := F
  exact ⟨_, _, _, _, _, _, _, _, _, fd, F', gc_TruthTerm___init__, rfl, rfl, gm_TruthTerm___init__, dfl0 (F'.bindsN (ps := ["self", "is_yes"]) fun _ _ _ _ _ _ us hl => match us, hl with | [_, _], _ => rfl) rfl, kwd0 rfl⟩
theorem gm_TruthTerm_meet : mB meT true ["self", "guest"] (defScope gs_TruthTerm_meet).names b_TruthTerm_meet (defBody gs_TruthTerm_meet) = true := by decide +kernel
theorem gc_TruthTerm_meet : FnScope ["self", "guest"] ["self", "guest"] (defScope gs_TruthTerm_meet) := C8.fnScope_by (by decide +kernel)
theorem gen_TruthTerm_meet {K : PySem.W.Frag} (c : He.SaysD faT fnT K) : Ent (moT K) n_TruthTerm_meet d_TruthTerm_meet := by
  obtain ⟨fd, F⟩ := c.def_ 27 (d := ge_TruthTerm_meet) rfl
  have F' : FunD K ge_TruthTerm_meet.name ge_TruthTerm_meet.qual ge_TruthTerm_meet.params ge_TruthTerm_meet.body ge_TruthTerm_meet.scope [] (ge_TruthTerm_meet.kws K) ((moT K).fa n_TruthTerm_meet) fd := F
  exact ⟨_, _, _, _, _, _, _, _, _, fd, F', gc_TruthTerm_meet, rfl, rfl, gm_TruthTerm_meet, dfl0 (F'.bindsN (ps := ["self", "guest"]) fun _ _ _ _ _ _ us hl => match us, hl with | [_, _], _ => rfl) rfl, kwd0 rfl⟩
theorem gm_TruthTerm_plain : mB meT true ["self"] (defScope gs_TruthTerm_plain).names b_TruthTerm_plain (defBody gs_TruthTerm_plain) = true := by decide +kernel
theorem gc_TruthTerm_plain : FnScope ["self"] ["self"] (defScope gs_TruthTerm_plain) := C8.fnScope_by (by decide +kernel)
theorem gen_TruthTerm_plain {K : PySem.W.Frag} (c : He.SaysD faT fnT K) : Ent (moT K) n_TruthTerm_plain d_TruthTerm_plain := by
  obtain ⟨fd, F⟩ := c.def_ 28 (d := ge_TruthTerm_plain) rfl
  have F' : FunD K ge_TruthTerm_plain.name ge_TruthTerm_plain.qual ge_TruthTerm_plain.params ge_TruthTerm_plain.body ge_TruthTerm_plain.scope [] (ge_TruthTerm_plain.kws K) ((moT K).fa n_TruthTerm_plain) fd := F
  exact ⟨_, _, _, _, _, _, _, _, _, fd, F', gc_TruthTerm_plain, rfl, rfl, gm_TruthTerm_plain, dfl0 (F'.bindsN (ps := ["self"]) fun _ _ _ _ _ _ us hl => match us, hl with | [_], _ => rfl) rfl, kwd0 rfl⟩
theorem gm_NameTerm___init__ : mB meT true ["self", "called"] (defScope gs_NameTerm___init__).names b_NameTerm___init__ (defBody gs_NameTerm___init__) = true := by decide +kernel
theorem gc_NameTerm___init__ : FnScope ["self", "called"] ["self", "called"] (defScope gs_NameTerm___init__) := C8.fnScope_by (by decide +kernel)
theorem gen_NameTerm___init__ {K : PySem.W.Frag} (c : He.SaysD faT fnT K) : Ent (moT K) n_NameTerm___init__ d_NameTerm___init__ := by
  obtain ⟨fd, F⟩ := c.def_ 29 (d := ge_NameTerm___init__) rfl
  have F' : FunD K ge_NameTerm___init__.name ge_NameTerm___init__.qual ge_NameTerm___init__.params ge_NameTerm___init__.body ge_NameTerm___init__.scope [] (ge_NameTerm___init__.kws K) ((moT K).fa n_NameTerm___init__) fd := F
  exact ⟨_, _, _, _, _, _, _, _, _, fd, F', gc_NameTerm___init__, rfl, rfl, gm_NameTerm___init__, dfl0 (F'.bindsN (ps := ["self", "called"]) fun _ _ _ _ _ _ us hl => match us, hl with | [_, _], _ => rfl) rfl, kwd0 rfl⟩
theorem gm_NameTerm_meet : mB meT true ["self", "guest"] (defScope gs_NameTerm_meet).names b_NameTerm_meet (defBody gs_NameTerm_meet) = true := by decide +kernel
theorem gc_NameTerm_meet : FnScope ["self", "guest"] ["self", "guest"] (defScope gs_NameTerm_meet) := C8.fnScope_by (by decide +kernel)
theorem gen_NameTerm_meet {K : PySem.W.Frag} (c : He.SaysD faT fnT K) : Ent (moT K) n_NameTerm_meet d_NameTerm_meet := by
  obtain ⟨fd, F⟩ := c.def_ 30 (d := ge_NameTerm_meet) rfl
  have F' : FunD K ge_NameTerm_meet.name ge_NameTerm_meet.qual ge_NameTerm_meet.params ge_NameTerm_meet.body ge_NameTerm_meet.scope [] (ge_NameTerm_meet.kws K) ((moT K).fa n_NameTerm_meet) fd := F
  exact ⟨_, _, _, _, _, _, _, _, _, fd, F', gc_NameTerm_meet, rfl, rfl, gm_NameTerm_meet, dfl0 (F'.bindsN (ps := ["self", "guest"]) fun _ _ _ _ _ _ us hl => match us, hl with | [_, _], _ => rfl) rfl, kwd0 rfl⟩
theorem gm_NameTerm_plain : mB meT true ["self"] (defScope gs_NameTerm_plain).names b_NameTerm_plain (defBody gs_NameTerm_plain) = true := by decide +kernel
theorem gc_NameTerm_plain : FnScope ["self"] ["self"] (defScope gs_NameTerm_plain) := C8.fnScope_by (by decide +kernel)
theorem gen_NameTerm_plain {K : PySem.W.Frag} (c : He.SaysD faT fnT K) : Ent (moT K) n_NameTerm_plain d_NameTerm_plain := by
  obtain ⟨fd, F⟩ := c.def_ 31 (d := ge_NameTerm_plain) rfl
  have F' : FunD K ge_NameTerm_plain.name ge_NameTerm_plain.qual ge_NameTerm_plain.params ge_NameTerm_plain.body ge_NameTerm_plain.scope [] (ge_NameTerm_plain.kws K) ((moT K).fa n_NameTerm_plain) fd := F
  exact ⟨_, _, _, _, _, _, _, _, _, fd, F', gc_NameTerm_plain, rfl, rfl, gm_NameTerm_plain, dfl0 (F'.bindsN (ps := ["self"]) fun _ _ _ _ _ _ us hl => match us, hl with | [_], _ => rfl) rfl, kwd0 rfl⟩
theorem gm_SelfTerm___init__ : mB meT true ["self"] (defScope gs_SelfTerm___init__).names b_SelfTerm___init__ (defBody gs_SelfTerm___init__) = true := by decide +kernel
theorem gc_SelfTerm___init__ : FnScope ["self"] ["self"] (defScope gs_SelfTerm___init__) := C8.fnScope_by (by decide +kernel)
theorem gen_SelfTerm___init__ {K : PySem.W.Frag} (c : He.SaysD faT fnT K) : Ent (moT K) n_SelfTerm___init__ d_SelfTerm___init__ := by
  obtain ⟨fd, F⟩ := c.def_ 32 (d := ge_SelfTerm___init__) rfl
  have F' : FunD K ge_SelfTerm___init__.name ge_SelfTerm___init__.qual ge_SelfTerm___init__.params ge_SelfTerm___init__.body ge_SelfTerm___init__.scope [] (ge_SelfTerm___init__.kws K) ((moT K).fa n_SelfTerm___init__) fd := F
  exact ⟨_, _, _, _, _, _, _, _, _, fd, F', gc_SelfTerm___init__, rfl, rfl, gm_SelfTerm___init__, dfl0 (F'.bindsN (ps := ["self"]) fun _ _ _ _ _ _ us hl => match us, hl with | [_], _ => rfl) rfl, kwd0 rfl⟩
theorem gm_SelfTerm_meet : mB meT true ["self", "guest"] (defScope gs_SelfTerm_meet).names b_SelfTerm_meet (defBody gs_SelfTerm_meet) = true := by decide +kernel
theorem gc_SelfTerm_meet : FnScope ["self", "guest"] ["self", "guest"] (defScope gs_SelfTerm_meet) := C8.fnScope_by (by decide +kernel)
theorem gen_SelfTerm_meet {K : PySem.W.Frag} (c : He.SaysD faT fnT K) : Ent (moT K) n_SelfTerm_meet d_SelfTerm_meet := by
  obtain ⟨fd, F⟩ := c.def_ 33 (d := ge_SelfTerm_meet) rfl
  have F' : FunD K ge_SelfTerm_meet.name ge_SelfTerm_meet.qual ge_SelfTerm_meet.params ge_SelfTerm_meet.body ge_SelfTerm_meet.scope [] (ge_SelfTerm_meet.kws K) ((moT K).fa n_SelfTerm_meet) fd := F
  exact ⟨_, _, _, _, _, _, _, _, _, fd, F', gc_SelfTerm_meet, rfl, rfl, gm_SelfTerm_meet, dfl0 (F'.bindsN (ps := ["self", "guest"]) fun _ _ _ _ _ _ us hl => match us, hl with | [_, _], _ => rfl) rfl, kwd0 rfl⟩
theorem gm_SelfTerm_plain : mB meT true ["self"] (defScope gs_SelfTerm_plain).names b_SelfTerm_plain (defBody gs_SelfTerm_plain) = true := by decide +kernel
theorem gc_SelfTerm_plain : FnScope ["self"] ["self"] (defScope gs_SelfTerm_plain) := C8.fnScope_by (by decide +kernel)
theorem gen_SelfTerm_plain {K : PySem.W.Frag} (c : He.SaysD faT fnT K) : Ent (moT K) n_SelfTerm_plain d_SelfTerm_plain := by
  obtain ⟨fd, F⟩ := c.def_ 34 (d := ge_SelfTerm_plain) rfl
  have F' : FunD K ge_SelfTerm_plain.name ge_SelfTerm_plain.qual ge_SelfTerm_plain.params ge_SelfTerm_plain.body ge_SelfTerm_plain.scope [] (ge_SelfTerm_plain.kws K) ((moT K).fa n_SelfTerm_plain) fd := F
  exact ⟨_, _, _, _, _, _, _, _, _, fd, F', gc_SelfTerm_plain, rfl, rfl, gm_SelfTerm_plain, dfl0 (F'.bindsN (ps := ["self"]) fun _ _ _ _ _ _ us hl => match us, hl with | [_], _ => rfl) rfl, kwd0 rfl⟩
theorem gm_NewTerm___init__ : mB meT true ["self", "called", "given"] (defScope gs_NewTerm___init__).names b_NewTerm___init__ (defBody gs_NewTerm___init__) = true := by decide +kernel
theorem gc_NewTerm___init__ : FnScope ["self", "called", "given"] ["self", "called", "given"] (defScope gs_NewTerm___init__) := C8.fnScope_by (by decide +kernel)
theorem gen_NewTerm___init__ {K : PySem.W.Frag} (c : He.SaysD faT fnT K) : Ent (moT K) n_NewTerm___init__ d_NewTerm___init__ := by
  obtain ⟨fd, F⟩ := c.def_ 35 (d := ge_NewTerm___init__) rfl
  have F' : FunD K ge_NewTerm___init__.name ge_NewTerm___init__.qual ge_NewTerm___init__.params ge_NewTerm___init__.body ge_NewTerm___init__.scope [] (ge_NewTerm___init__.kws K) ((moT K).fa n_NewTerm___init__) fd := F
  exact ⟨_, _, _, _, _, _, _, _, _, fd, F', gc_NewTerm___init__, rfl, rfl, gm_NewTerm___init__, dfl0 (F'.bindsN (ps := ["self", "called", "given"]) fun _ _ _ _ _ _ us hl => match us, hl with | [_, _, _], _ => rfl) rfl, kwd0 rfl⟩
theorem gm_NewTerm_meet : mB meT true ["self", "guest"] (defScope gs_NewTerm_meet).names b_NewTerm_meet (defBody gs_NewTerm_meet) = true := by decide +kernel
theorem gc_NewTerm_meet : FnScope ["self", "guest"] ["self", "guest"] (defScope gs_NewTerm_meet) := C8.fnScope_by (by decide +kernel)
theorem gen_NewTerm_meet {K : PySem.W.Frag} (c : He.SaysD faT fnT K) : Ent (moT K) n_NewTerm_meet d_NewTerm_meet := by
  obtain ⟨fd, F⟩ := c.def_ 36 (d := ge_NewTerm_meet) rfl
  have F' : FunD K ge_NewTerm_meet.name ge_NewTerm_meet.qual ge_NewTerm_meet.params ge_NewTerm_meet.body ge_NewTerm_meet.scope [] (ge_NewTerm_meet.kws K) ((moT K).fa n_NewTerm_meet) fd := F
  exact ⟨_, _, _, _, _, _, _, _, _, fd, F', gc_NewTerm_meet, rfl, rfl, gm_NewTerm_meet, dfl0 (F'.bindsN (ps := ["self", "guest"]) fun _ _ _ _ _ _ us hl => match us, hl with | [_, _], _ => rfl) rfl, kwd0 rfl⟩
theorem gm_NewTerm_plain : mB meT true ["self"] (defScope gs_NewTerm_plain).names b_NewTerm_plain (defBody gs_NewTerm_plain) = true := by decide +kernel
theorem gc_NewTerm_plain : FnScope ["self"] ["self"] (defScope gs_NewTerm_plain) := C8.fnScope_by (by decide +kernel)
theorem gen_NewTerm_plain {K : PySem.W.Frag} (c : He.SaysD faT fnT K) : Ent (moT K) n_NewTerm_plain d_NewTerm_plain := by
  obtain ⟨fd, F⟩ := c.def_ 37 (d := ge_NewTerm_plain) rfl
  have F' : FunD K ge_NewTerm_plain.name ge_NewTerm_plain.qual ge_NewTerm_plain.params ge_NewTerm_plain.body ge_NewTerm_plain.scope [] (ge_NewTerm_plain.kws K) ((moT K).fa n_NewTerm_plain) fd := F
  exact ⟨_, _, _, _, _, _, _, _, _, fd, F', gc_NewTerm_plain, rfl, rfl, gm_NewTerm_plain, dfl0 (F'.bindsN (ps := ["self"]) fun _ _ _ _ _ _ us hl => match us, hl with | [_], _ => rfl) rfl, kwd0 rfl⟩
theorem gm_ElderTerm___init__ : mB meT true ["self", "called", "given"] (defScope gs_ElderTerm___init__).names b_ElderTerm___init__ (defBody gs_ElderTerm___init__) = true := by decide +kernel
theorem gc_ElderTerm___init__ : FnScope ["self", "called", "given"] ["self", "called", "given"] (defScope gs_ElderTerm___init__) := C8.fnScope_by (by decide +kernel)
theorem gen_ElderTerm___init__ {K : PySem.W.Frag} (c : He.SaysD faT fnT K) : Ent (moT K) n_ElderTerm___init__ d_ElderTerm___init__ := by
  obtain ⟨fd, F⟩ := c.def_ 38 (d := ge_ElderTerm___init__) rfl
  have F' : FunD K ge_ElderTerm___init__.name ge_ElderTerm___init__.qual ge_ElderTerm___init__.params ge_ElderTerm___init__.body ge_ElderTerm___init__.scope [] (ge_ElderTerm___init__.kws K) ((moT K).fa n_ElderTerm___init__) fd := F
  exact ⟨_, _, _, _, _, _, _, _, _, fd, F', gc_ElderTerm___init__, rfl, rfl, gm_ElderTerm___init__, dfl0 (F'.bindsN (ps := ["self", "called", "given"]) fun _ _ _ _ _ _ us hl => match us, hl with | [_, _, _], _ => rfl) rfl, kwd0 rfl⟩
theorem gm_ElderTerm_meet : mB meT true ["self", "guest"] (defScope gs_ElderTerm_meet).names b_ElderTerm_meet (defBody gs_ElderTerm_meet) = true := by decide +kernel
theorem gc_ElderTerm_meet : FnScope ["self", "guest"] ["self", "guest"] (defScope gs_ElderTerm_meet) := C8.fnScope_by (by decide +kernel)
theorem gen_ElderTerm_meet {K : PySem.W.Frag} (c : He.SaysD faT fnT K) : Ent (moT K) n_ElderTerm_meet d_ElderTerm_meet := by
  obtain ⟨fd, F⟩ := c.def_ 39 (d := ge_ElderTerm_meet) rfl
  have F' : FunD K ge_ElderTerm_meet.name ge_ElderTerm_meet.qual ge_ElderTerm_meet.params ge_ElderTerm_meet.body ge_ElderTerm_meet.scope [] (ge_ElderTerm_meet.kws K) ((moT K).fa n_ElderTerm_meet) fd := F
  exact ⟨_, _, _, _, _, _, _, _, _, fd, F', gc_ElderTerm_meet, rfl, rfl, gm_ElderTerm_meet, dfl0 (F'.bindsN (ps := ["self", "guest"]) fun _ _ _ _ _ _ us hl => match us, hl with | [_, _], _ => rfl) rfl, kwd0 rfl⟩
theorem gm_ElderTerm_plain : mB meT true ["self"] (defScope gs_ElderTerm_plain).names b_ElderTerm_plain (defBody gs_ElderTerm_plain) = true := by decide +kernel
theorem gc_ElderTerm_plain : FnScope ["self"] ["self"] (defScope gs_ElderTerm_plain) := C8.fnScope_by (by decide +kernel)
theorem gen_ElderTerm_plain {K : PySem.W.Frag} (c : He.SaysD faT fnT K) : Ent (moT K) n_ElderTerm_plain d_ElderTerm_plain := by
  obtain ⟨fd, F⟩ := c.def_ 40 (d := ge_ElderTerm_plain) rfl
  have F' : FunD K ge_ElderTerm_plain.name ge_ElderTerm_plain.qual ge_ElderTerm_plain.params ge_ElderTerm_plain.body ge_ElderTerm_plain.scope [] (ge_ElderTerm_plain.kws K) ((moT K).fa n_ElderTerm_plain) fd := F
  exact ⟨_, _, _, _, _, _, _, _, _, fd, F', gc_ElderTerm_plain, rfl, rfl, gm_ElderTerm_plain, dfl0 (F'.bindsN (ps := ["self"]) fun _ _ _ _ _ _ us hl => match us, hl with | [_], _ => rfl) rfl, kwd0 rfl⟩
theorem gm_FieldTerm___init__ : mB meT true ["self", "thing", "called"] (defScope gs_FieldTerm___init__).names b_FieldTerm___init__ (defBody gs_FieldTerm___init__) = true := by decide +kernel
theorem gc_FieldTerm___init__ : FnScope ["self", "thing", "called"] ["self", "thing", "called"] (defScope gs_FieldTerm___init__) := C8.fnScope_by (by decide +kernel)
theorem gen_FieldTerm___init__ {K : PySem.W.Frag} (c : He.SaysD faT fnT K) : Ent (moT K) n_FieldTerm___init__ d_FieldTerm___init__ := by
  obtain ⟨fd, F⟩ := c.def_ 41 (d := ge_FieldTerm___init__) rfl
  have F' : FunD K ge_FieldTerm___init__.name ge_FieldTerm___init__.qual ge_FieldTerm___init__.params ge_FieldTerm___init__.body ge_FieldTerm___init__.scope [] (ge_FieldTerm___init__.kws K) ((moT K).fa n_FieldTerm___init__) fd := F
  exact ⟨_, _, _, _, _, _, _, _, _, fd, F', gc_FieldTerm___init__, rfl, rfl, gm_FieldTerm___init__, dfl0 (F'.bindsN (ps := ["self", "thing", "called"]) fun _ _ _ _ _ _ us hl => match us, hl with | [_, _, _], _ => rfl) rfl, kwd0 rfl⟩
theorem gm_FieldTerm_meet : mB meT true ["self", "guest"] (defScope gs_FieldTerm_meet).names b_FieldTerm_meet (defBody gs_FieldTerm_meet) = true := by decide +kernel
theorem gc_FieldTerm_meet : FnScope ["self", "guest"] ["self", "guest"] (defScope gs_FieldTerm_meet) := C8.fnScope_by (by decide +kernel)
theorem gen_FieldTerm_meet {K : PySem.W.Frag} (c : He.SaysD faT fnT K) : Ent (moT K) n_FieldTerm_meet d_FieldTerm_meet := by
  obtain ⟨fd, F⟩ := c.def_ 42 (d := ge_FieldTerm_meet) rfl
  have F' : FunD K ge_FieldTerm_meet.name ge_FieldTerm_meet.qual ge_FieldTerm_meet.params ge_FieldTerm_meet.body ge_FieldTerm_meet.scope [] (ge_FieldTerm_meet.kws K) ((moT K).fa n_FieldTerm_meet) fd := F
  exact ⟨_, _, _, _, _, _, _, _, _, fd, F', gc_FieldTerm_meet, rfl, rfl, gm_FieldTerm_meet, dfl0 (F'.bindsN (ps := ["self", "guest"]) fun _ _ _ _ _ _ us hl => match us, hl with | [_, _], _ => rfl) rfl, kwd0 rfl⟩
theorem gm_FieldTerm_plain : mB meT true ["self"] (defScope gs_FieldTerm_plain).names b_FieldTerm_plain (defBody gs_FieldTerm_plain) = true := by decide +kernel
theorem gc_FieldTerm_plain : FnScope ["self"] ["self"] (defScope gs_FieldTerm_plain) := C8.fnScope_by (by decide +kernel)
theorem gen_FieldTerm_plain {K : PySem.W.Frag} (c : He.SaysD faT fnT K) : Ent (moT K) n_FieldTerm_plain d_FieldTerm_plain := by
  obtain ⟨fd, F⟩ := c.def_ 43 (d := ge_FieldTerm_plain) rfl
  have F' : FunD K ge_FieldTerm_plain.name ge_FieldTerm_plain.qual ge_FieldTerm_plain.params ge_FieldTerm_plain.body ge_FieldTerm_plain.scope [] (ge_FieldTerm_plain.kws K) ((moT K).fa n_FieldTerm_plain) fd := F
  exact ⟨_, _, _, _, _, _, _, _, _, fd, F', gc_FieldTerm_plain, rfl, rfl, gm_FieldTerm_plain, dfl0 (F'.bindsN (ps := ["self"]) fun _ _ _ _ _ _ us hl => match us, hl with | [_], _ => rfl) rfl, kwd0 rfl⟩
theorem gm_CallTerm___init__ : mB meT true ["self", "thing", "called", "given"] (defScope gs_CallTerm___init__).names b_CallTerm___init__ (defBody gs_CallTerm___init__) = true := by decide +kernel
theorem gc_CallTerm___init__ : FnScope ["self", "thing", "called", "given"] ["self", "thing", "called", "given"] (defScope gs_CallTerm___init__) := C8.fnScope_by (by decide +kernel)
theorem gen_CallTerm___init__ {K : PySem.W.Frag} (c : He.SaysD faT fnT K) : Ent (moT K) n_CallTerm___init__ d_CallTerm___init__ := by
  obtain ⟨fd, F⟩ := c.def_ 44 (d := ge_CallTerm___init__) rfl
  have F' : FunD K ge_CallTerm___init__.name ge_CallTerm___init__.qual ge_CallTerm___init__.params ge_CallTerm___init__.body ge_CallTerm___init__.scope [] (ge_CallTerm___init__.kws K) ((moT K).fa n_CallTerm___init__) fd := F
  exact ⟨_, _, _, _, _, _, _, _, _, fd, F', gc_CallTerm___init__, rfl, rfl, gm_CallTerm___init__, dfl0 (F'.bindsN (ps := ["self", "thing", "called", "given"]) fun _ _ _ _ _ _ us hl => match us, hl with | [_, _, _, _], _ => rfl) rfl, kwd0 rfl⟩
theorem gm_CallTerm_meet : mB meT true ["self", "guest"] (defScope gs_CallTerm_meet).names b_CallTerm_meet (defBody gs_CallTerm_meet) = true := by decide +kernel
theorem gc_CallTerm_meet : FnScope ["self", "guest"] ["self", "guest"] (defScope gs_CallTerm_meet) := C8.fnScope_by (by decide +kernel)
theorem gen_CallTerm_meet {K : PySem.W.Frag} (c : He.SaysD faT fnT K) : Ent (moT K) n_CallTerm_meet d_CallTerm_meet := by
  obtain ⟨fd, F⟩ := c.def_ 45 (d := ge_CallTerm_meet) rfl
  have F' : FunD K ge_CallTerm_meet.name ge_CallTerm_meet.qual ge_CallTerm_meet.params ge_CallTerm_meet.body ge_CallTerm_meet.scope [] (ge_CallTerm_meet.kws K) ((moT K).fa n_CallTerm_meet) fd := F
  exact ⟨_, _, _, _, _, _, _, _, _, fd, F', gc_CallTerm_meet, rfl, rfl, gm_CallTerm_meet, dfl0 (F'.bindsN (ps := ["self", "guest"]) fun _ _ _ _ _ _ us hl => match us, hl with | [_, _], _ => rfl) rfl, kwd0 rfl⟩
theorem gm_CallTerm_plain : mB meT true ["self"] (defScope gs_CallTerm_plain).names b_CallTerm_plain (defBody gs_CallTerm_plain) = true := by decide +kernel
theorem gc_CallTerm_plain : FnScope ["self"] ["self"] (defScope gs_CallTerm_plain) := C8.fnScope_by (by decide +kernel)
theorem gen_CallTerm_plain {K : PySem.W.Frag} (c : He.SaysD faT fnT K) : Ent (moT K) n_CallTerm_plain d_CallTerm_plain := by
  obtain ⟨fd, F⟩ := c.def_ 46 (d := ge_CallTerm_plain) rfl
  have F' : FunD K ge_CallTerm_plain.name ge_CallTerm_plain.qual ge_CallTerm_plain.params ge_CallTerm_plain.body ge_CallTerm_plain.scope [] (ge_CallTerm_plain.kws K) ((moT K).fa n_CallTerm_plain) fd := F
  exact ⟨_, _, _, _, _, _, _, _, _, fd, F', gc_CallTerm_plain, rfl, rfl, gm_CallTerm_plain, dfl0 (F'.bindsN (ps := ["self"]) fun _ _ _ _ _ _ us hl => match us, hl with | [_], _ => rfl) rfl, kwd0 rfl⟩
theorem gm_NotTerm___init__ : mB meT true ["self", "one"] (defScope gs_NotTerm___init__).names b_NotTerm___init__ (defBody gs_NotTerm___init__) = true := by decide +kernel
theorem gc_NotTerm___init__ : FnScope ["self", "one"] ["self", "one"] (defScope gs_NotTerm___init__) := C8.fnScope_by (by decide +kernel)
theorem gen_NotTerm___init__ {K : PySem.W.Frag} (c : He.SaysD faT fnT K) : Ent (moT K) n_NotTerm___init__ d_NotTerm___init__ := by
  obtain ⟨fd, F⟩ := c.def_ 47 (d := ge_NotTerm___init__) rfl
  have F' : FunD K ge_NotTerm___init__.name ge_NotTerm___init__.qual ge_NotTerm___init__.params ge_NotTerm___init__.body ge_NotTerm___init__.scope [] (ge_NotTerm___init__.kws K) ((moT K).fa n_NotTerm___init__) fd := F
  exact ⟨_, _, _, _, _, _, _, _, _, fd, F', gc_NotTerm___init__, rfl, rfl, gm_NotTerm___init__, dfl0 (F'.bindsN (ps := ["self", "one"]) fun _ _ _ _ _ _ us hl => match us, hl with | [_, _], _ => rfl) rfl, kwd0 rfl⟩
theorem gm_NotTerm_meet : mB meT true ["self", "guest"] (defScope gs_NotTerm_meet).names b_NotTerm_meet (defBody gs_NotTerm_meet) = true := by decide +kernel
theorem gc_NotTerm_meet : FnScope ["self", "guest"] ["self", "guest"] (defScope gs_NotTerm_meet) := C8.fnScope_by (by decide +kernel)
theorem gen_NotTerm_meet {K : PySem.W.Frag} (c : He.SaysD faT fnT K) : Ent (moT K) n_NotTerm_meet d_NotTerm_meet := by
  obtain ⟨fd, F⟩ := c.def_ 48 (d := ge_NotTerm_meet) rfl
  have F' : FunD K ge_NotTerm_meet.name ge_NotTerm_meet.qual ge_NotTerm_meet.params ge_NotTerm_meet.body ge_NotTerm_meet.scope [] (ge_NotTerm_meet.kws K) ((moT K).fa n_NotTerm_meet) fd := F
  exact ⟨_, _, _, _, _, _, _, _, _, fd, F', gc_NotTerm_meet, rfl, rfl, gm_NotTerm_meet, dfl0 (F'.bindsN (ps := ["self", "guest"]) fun _ _ _ _ _ _ us hl => match us, hl with | [_, _], _ => rfl) rfl, kwd0 rfl⟩
theorem gm_NotTerm_plain : mB meT true ["self"] (defScope gs_NotTerm_plain).names b_NotTerm_plain (defBody gs_NotTerm_plain) = true := by decide +kernel
theorem gc_NotTerm_plain : FnScope ["self"] ["self"] (defScope gs_NotTerm_plain) := C8.fnScope_by (by decide +kernel)
theorem gen_NotTerm_plain {K : PySem.W.Frag} (c : He.SaysD faT fnT K) : Ent (moT K) n_NotTerm_plain d_NotTerm_plain := by
  obtain ⟨fd, F⟩ := c.def_ 49 (d := ge_NotTerm_plain) rfl
  have F' : FunD K ge_NotTerm_plain.name ge_NotTerm_plain.qual ge_NotTerm_plain.params ge_NotTerm_plain.body ge_NotTerm_plain.scope [] (ge_NotTerm_plain.kws K) ((moT K).fa n_NotTerm_plain) fd := F
  exact ⟨_, _, _, _, _, _, _, _, _, fd, F', gc_NotTerm_plain, rfl, rfl, gm_NotTerm_plain, dfl0 (F'.bindsN (ps := ["self"]) fun _ _ _ _ _ _ us hl => match us, hl with | [_], _ => rfl) rfl, kwd0 rfl⟩
theorem gm_TwoTerm___init__ : mB meT true ["self", "sign", "one", "other"] (defScope gs_TwoTerm___init__).names b_TwoTerm___init__ (defBody gs_TwoTerm___init__) = true := by decide +kernel
theorem gc_TwoTerm___init__ : FnScope ["self", "sign", "one", "other"] ["self", "sign", "one", "other"] (defScope gs_TwoTerm___init__) := C8.fnScope_by (by decide +kernel)
theorem gen_TwoTerm___init__ {K : PySem.W.Frag} (c : He.SaysD faT fnT K) : Ent (moT K) n_TwoTerm___init__ d_TwoTerm___init__ := by
  obtain ⟨fd, F⟩ := c.def_ 50 (d := ge_TwoTerm___init__) rfl
  have F' : FunD K ge_TwoTerm___init__.name ge_TwoTerm___init__.qual ge_TwoTerm___init__.params ge_TwoTerm___init__.body ge_TwoTerm___init__.scope [] (ge_TwoTerm___init__.kws K) ((moT K).fa n_TwoTerm___init__) fd := F
  exact ⟨_, _, _, _, _, _, _, _, _, fd, F', gc_TwoTerm___init__, rfl, rfl, gm_TwoTerm___init__, dfl0 (F'.bindsN (ps := ["self", "sign", "one", "other"]) fun _ _ _ _ _ _ us hl => match us, hl with | [_, _, _, _], _ => rfl) rfl, kwd0 rfl⟩
theorem gm_TwoTerm_meet : mB meT true ["self", "guest"] (defScope gs_TwoTerm_meet).names b_TwoTerm_meet (defBody gs_TwoTerm_meet) = true := by decide +kernel
theorem gc_TwoTerm_meet : FnScope ["self", "guest"] ["self", "guest"] (defScope gs_TwoTerm_meet) := C8.fnScope_by (by decide +kernel)
theorem gen_TwoTerm_meet {K : PySem.W.Frag} (c : He.SaysD faT fnT K) : Ent (moT K) n_TwoTerm_meet d_TwoTerm_meet := by
  obtain ⟨fd, F⟩ := c.def_ 51 (d := ge_TwoTerm_meet) rfl
  have F' : FunD K ge_TwoTerm_meet.name ge_TwoTerm_meet.qual ge_TwoTerm_meet.params ge_TwoTerm_meet.body ge_TwoTerm_meet.scope [] (ge_TwoTerm_meet.kws K) ((moT K).fa n_TwoTerm_meet) fd := F
  exact ⟨_, _, _, _, _, _, _, _, _, fd, F', gc_TwoTerm_meet, rfl, rfl, gm_TwoTerm_meet, dfl0 (F'.bindsN (ps := ["self", "guest"]) fun _ _ _ _ _ _ us hl => match us, hl with | [_, _], _ => rfl) rfl, kwd0 rfl⟩
theorem gm_TwoTerm_plain : mB meT true ["self"] (defScope gs_TwoTerm_plain).names b_TwoTerm_plain (defBody gs_TwoTerm_plain) = true := by decide +kernel
theorem gc_TwoTerm_plain : FnScope ["self"] ["self"] (defScope gs_TwoTerm_plain) := C8.fnScope_by (by decide +kernel)
theorem gen_TwoTerm_plain {K : PySem.W.Frag} (c : He.SaysD faT fnT K) : Ent (moT K) n_TwoTerm_plain d_TwoTerm_plain := by
  obtain ⟨fd, F⟩ := c.def_ 52 (d := ge_TwoTerm_plain) rfl
  have F' : FunD K ge_TwoTerm_plain.name ge_TwoTerm_plain.qual ge_TwoTerm_plain.params ge_TwoTerm_plain.body ge_TwoTerm_plain.scope [] (ge_TwoTerm_plain.kws K) ((moT K).fa n_TwoTerm_plain) fd := F
  exact ⟨_, _, _, _, _, _, _, _, _, fd, F', gc_TwoTerm_plain, rfl, rfl, gm_TwoTerm_plain, dfl0 (F'.bindsN (ps := ["self"]) fun _ _ _ _ _ _ us hl => match us, hl with | [_], _ => rfl) rfl, kwd0 rfl⟩
theorem gm_IfTerm___init__ : mB meT true ["self", "one", "other", "third"] (defScope gs_IfTerm___init__).names b_IfTerm___init__ (defBody gs_IfTerm___init__) = true := by decide +kernel
theorem gc_IfTerm___init__ : FnScope ["self", "one", "other", "third"] ["self", "one", "other", "third"] (defScope gs_IfTerm___init__) := C8.fnScope_by (by decide +kernel)
theorem gen_IfTerm___init__ {K : PySem.W.Frag} (c : He.SaysD faT fnT K) : Ent (moT K) n_IfTerm___init__ d_IfTerm___init__ := by
  obtain ⟨fd, F⟩ := c.def_ 53 (d := ge_IfTerm___init__) rfl
  have F' : FunD K ge_IfTerm___init__.name ge_IfTerm___init__.qual ge_IfTerm___init__.params ge_IfTerm___init__.body ge_IfTerm___init__.scope [] (ge_IfTerm___init__.kws K) ((moT K).fa n_IfTerm___init__) fd := F
  exact ⟨_, _, _, _, _, _, _, _, _, fd, F', gc_IfTerm___init__, rfl, rfl, gm_IfTerm___init__, dfl0 (F'.bindsN (ps := ["self", "one", "other", "third"]) fun _ _ _ _ _ _ us hl => match us, hl with | [_, _, _, _], _ => rfl) rfl, kwd0 rfl⟩
theorem gm_IfTerm_meet : mB meT true ["self", "guest"] (defScope gs_IfTerm_meet).names b_IfTerm_meet (defBody gs_IfTerm_meet) = true := by decide +kernel
theorem gc_IfTerm_meet : FnScope ["self", "guest"] ["self", "guest"] (defScope gs_IfTerm_meet) := C8.fnScope_by (by decide +kernel)
theorem gen_IfTerm_meet {K : PySem.W.Frag} (c : He.SaysD faT fnT K) : Ent (moT K) n_IfTerm_meet d_IfTerm_meet := by
  obtain ⟨fd, F⟩ := c.def_ 54 (d := ge_IfTerm_meet) rfl
  have F' : FunD K ge_IfTerm_meet.name ge_IfTerm_meet.qual ge_IfTerm_meet.params ge_IfTerm_meet.body ge_IfTerm_meet.scope [] (ge_IfTerm_meet.kws K) ((moT K).fa n_IfTerm_meet) fd := F
  exact ⟨_, _, _, _, _, _, _, _, _, fd, F', gc_IfTerm_meet, rfl, rfl, gm_IfTerm_meet, dfl0 (F'.bindsN (ps := ["self", "guest"]) fun _ _ _ _ _ _ us hl => match us, hl with | [_, _], _ => rfl) rfl, kwd0 rfl⟩
theorem gm_IfTerm_plain : mB meT true ["self"] (defScope gs_IfTerm_plain).names b_IfTerm_plain (defBody gs_IfTerm_plain) = true := by decide +kernel
theorem gc_IfTerm_plain : FnScope ["self"] ["self"] (defScope gs_IfTerm_plain) := C8.fnScope_by (by decide +kernel)
theorem gen_IfTerm_plain {K : PySem.W.Frag} (c : He.SaysD faT fnT K) : Ent (moT K) n_IfTerm_plain d_IfTerm_plain := by
  obtain ⟨fd, F⟩ := c.def_ 55 (d := ge_IfTerm_plain) rfl
  have F' : FunD K ge_IfTerm_plain.name ge_IfTerm_plain.qual ge_IfTerm_plain.params ge_IfTerm_plain.body ge_IfTerm_plain.scope [] (ge_IfTerm_plain.kws K) ((moT K).fa n_IfTerm_plain) fd := F
  exact ⟨_, _, _, _, _, _, _, _, _, fd, F', gc_IfTerm_plain, rfl, rfl, gm_IfTerm_plain, dfl0 (F'.bindsN (ps := ["self"]) fun _ _ _ _ _ _ us hl => match us, hl with | [_], _ => rfl) rfl, kwd0 rfl⟩
theorem gm_LetTerm___init__ : mB meT true ["self", "called", "one", "other"] (defScope gs_LetTerm___init__).names b_LetTerm___init__ (defBody gs_LetTerm___init__) = true := by decide +kernel
theorem gc_LetTerm___init__ : FnScope ["self", "called", "one", "other"] ["self", "called", "one", "other"] (defScope gs_LetTerm___init__) := C8.fnScope_by (by decide +kernel)
theorem gen_LetTerm___init__ {K : PySem.W.Frag} (c : He.SaysD faT fnT K) : Ent (moT K) n_LetTerm___init__ d_LetTerm___init__ := by
  obtain ⟨fd, F⟩ := c.def_ 56 (d := ge_LetTerm___init__) rfl
  have F' : FunD K ge_LetTerm___init__.name ge_LetTerm___init__.qual ge_LetTerm___init__.params ge_LetTerm___init__.body ge_LetTerm___init__.scope [] (ge_LetTerm___init__.kws K) ((moT K).fa n_LetTerm___init__) fd := F
  exact ⟨_, _, _, _, _, _, _, _, _, fd, F', gc_LetTerm___init__, rfl, rfl, gm_LetTerm___init__, dfl0 (F'.bindsN (ps := ["self", "called", "one", "other"]) fun _ _ _ _ _ _ us hl => match us, hl with | [_, _, _, _], _ => rfl) rfl, kwd0 rfl⟩
theorem gm_LetTerm_meet : mB meT true ["self", "guest"] (defScope gs_LetTerm_meet).names b_LetTerm_meet (defBody gs_LetTerm_meet) = true := by decide +kernel
theorem gc_LetTerm_meet : FnScope ["self", "guest"] ["self", "guest"] (defScope gs_LetTerm_meet) := C8.fnScope_by (by decide +kernel)
theorem gen_LetTerm_meet {K : PySem.W.Frag} (c : He.SaysD faT fnT K) : Ent (moT K) n_LetTerm_meet d_LetTerm_meet := by
  obtain ⟨fd, F⟩ := c.def_ 57 (d := ge_LetTerm_meet) rfl
  have F' : FunD K ge_LetTerm_meet.name ge_LetTerm_meet.qual ge_LetTerm_meet.params ge_LetTerm_meet.body ge_LetTerm_meet.scope [] (ge_LetTerm_meet.kws K) ((moT K).fa n_LetTerm_meet) fd := F
  exact ⟨_, _, _, _, _, _, _, _, _, fd, F', gc_LetTerm_meet, rfl, rfl, gm_LetTerm_meet, dfl0 (F'.bindsN (ps := ["self", "guest"]) fun _ _ _ _ _ _ us hl => match us, hl with | [_, _], _ => rfl) rfl, kwd0 rfl⟩
theorem gm_LetTerm_plain : mB meT true ["self"] (defScope gs_LetTerm_plain).names b_LetTerm_plain (defBody gs_LetTerm_plain) = true := by decide +kernel
theorem gc_LetTerm_plain : FnScope ["self"] ["self"] (defScope gs_LetTerm_plain) := C8.fnScope_by (by decide +kernel)
theorem gen_LetTerm_plain {K : PySem.W.Frag} (c : He.SaysD faT fnT K) : Ent (moT K) n_LetTerm_plain d_LetTerm_plain := by
  obtain ⟨fd, F⟩ := c.def_ 58 (d := ge_LetTerm_plain) rfl
  have F' : FunD K ge_LetTerm_plain.name ge_LetTerm_plain.qual ge_LetTerm_plain.params ge_LetTerm_plain.body ge_LetTerm_plain.scope [] (ge_LetTerm_plain.kws K) ((moT K).fa n_LetTerm_plain) fd := F
  exact ⟨_, _, _, _, _, _, _, _, _, fd, F', gc_LetTerm_plain, rfl, rfl, gm_LetTerm_plain, dfl0 (F'.bindsN (ps := ["self"]) fun _ _ _ _ _ _ us hl => match us, hl with | [_], _ => rfl) rfl, kwd0 rfl⟩
theorem gm_SetTerm___init__ : mB meT true ["self", "thing", "called", "other"] (defScope gs_SetTerm___init__).names b_SetTerm___init__ (defBody gs_SetTerm___init__) = true := by decide +kernel
theorem gc_SetTerm___init__ : FnScope ["self", "thing", "called", "other"] ["self", "thing", "called", "other"] (defScope gs_SetTerm___init__) := C8.fnScope_by (by decide +kernel)
theorem gen_SetTerm___init__ {K : PySem.W.Frag} (c : He.SaysD faT fnT K) : Ent (moT K) n_SetTerm___init__ d_SetTerm___init__ := by
  obtain ⟨fd, F⟩ := c.def_ 59 (d := ge_SetTerm___init__) rfl
  have F' : FunD K ge_SetTerm___init__.name ge_SetTerm___init__.qual ge_SetTerm___init__.params ge_SetTerm___init__.body ge_SetTerm___init__.scope [] (ge_SetTerm___init__.kws K) ((moT K).fa n_SetTerm___init__) fd := F
  exact ⟨_, _, _, _, _, _, _, _, _, fd, F', gc_SetTerm___init__, rfl, rfl, gm_SetTerm___init__, dfl0 (F'.bindsN (ps := ["self", "thing", "called", "other"]) fun _ _ _ _ _ _ us hl => match us, hl with | [_, _, _, _], _ => rfl) rfl, kwd0 rfl⟩
theorem gm_SetTerm_meet : mB meT true ["self", "guest"] (defScope gs_SetTerm_meet).names b_SetTerm_meet (defBody gs_SetTerm_meet) = true := by decide +kernel
theorem gc_SetTerm_meet : FnScope ["self", "guest"] ["self", "guest"] (defScope gs_SetTerm_meet) := C8.fnScope_by (by decide +kernel)
theorem gen_SetTerm_meet {K : PySem.W.Frag} (c : He.SaysD faT fnT K) : Ent (moT K) n_SetTerm_meet d_SetTerm_meet := by
  obtain ⟨fd, F⟩ := c.def_ 60 (d := ge_SetTerm_meet) rfl
  have F' : FunD K ge_SetTerm_meet.name ge_SetTerm_meet.qual ge_SetTerm_meet.params ge_SetTerm_meet.body ge_SetTerm_meet.scope [] (ge_SetTerm_meet.kws K) ((moT K).fa n_SetTerm_meet) fd := F
  exact ⟨_, _, _, _, _, _, _, _, _, fd, F', gc_SetTerm_meet, rfl, rfl, gm_SetTerm_meet, dfl0 (F'.bindsN (ps := ["self", "guest"]) fun _ _ _ _ _ _ us hl => match us, hl with | [_, _], _ => rfl) rfl, kwd0 rfl⟩
theorem gm_SetTerm_plain : mB meT true ["self"] (defScope gs_SetTerm_plain).names b_SetTerm_plain (defBody gs_SetTerm_plain) = true := by decide +kernel
theorem gc_SetTerm_plain : FnScope ["self"] ["self"] (defScope gs_SetTerm_plain) := C8.fnScope_by (by decide +kernel)
theorem gen_SetTerm_plain {K : PySem.W.Frag} (c : He.SaysD faT fnT K) : Ent (moT K) n_SetTerm_plain d_SetTerm_plain := by
  obtain ⟨fd, F⟩ := c.def_ 61 (d := ge_SetTerm_plain) rfl
  have F' : FunD K ge_SetTerm_plain.name ge_SetTerm_plain.qual ge_SetTerm_plain.params ge_SetTerm_plain.body ge_SetTerm_plain.scope [] (ge_SetTerm_plain.kws K) ((moT K).fa n_SetTerm_plain) fd := F
  exact ⟨_, _, _, _, _, _, _, _, _, fd, F', gc_SetTerm_plain, rfl, rfl, gm_SetTerm_plain, dfl0 (F'.bindsN (ps := ["self"]) fun _ _ _ _ _ _ us hl => match us, hl with | [_], _ => rfl) rfl, kwd0 rfl⟩
theorem hallT {K : PySem.W.Frag} (c : He.SaysD faT fnT K) : ∀ f d, sgT.fn f = some d → Ent (moT K) f d := fun f d h => getF_all (P := fun f d => Ent (moT K) f d) (l := fdsT) ⟨gen__wall c, gen_plains c, gen_leaf_of c, gen_thing_term_of c, gen_term_of c, gen__law_cell_at c, gen__law_mixed c, gen__law_name c, gen__law_atom c, gen__law_taken c, gen__law_about c, gen__law_joined c, gen__law_term c, gen__law_parts c, gen__law_measured c, gen__law_whole c, gen_law c, gen_Term___init__ c, gen_Term_meet c, gen_Term_plain c, gen_Term_parts c, gen_Term_depth c, gen_Term_size c, gen_NumberTerm___init__ c, gen_NumberTerm_meet c, gen_NumberTerm_plain c, gen_TruthTerm___init__ c, gen_TruthTerm_meet c, gen_TruthTerm_plain c, gen_NameTerm___init__ c, gen_NameTerm_meet c, gen_NameTerm_plain c, gen_SelfTerm___init__ c, gen_SelfTerm_meet c, gen_SelfTerm_plain c, gen_NewTerm___init__ c, gen_NewTerm_meet c, gen_NewTerm_plain c, gen_ElderTerm___init__ c, gen_ElderTerm_meet c, gen_ElderTerm_plain c, gen_FieldTerm___init__ c, gen_FieldTerm_meet c, gen_FieldTerm_plain c, gen_CallTerm___init__ c, gen_CallTerm_meet c, gen_CallTerm_plain c, gen_NotTerm___init__ c, gen_NotTerm_meet c, gen_NotTerm_plain c, gen_TwoTerm___init__ c, gen_TwoTerm_meet c, gen_TwoTerm_plain c, gen_IfTerm___init__ c, gen_IfTerm_meet c, gen_IfTerm_plain c, gen_LetTerm___init__ c, gen_LetTerm_meet c, gen_LetTerm_plain c, gen_SetTerm___init__ c, gen_SetTerm_meet c, gen_SetTerm_plain c, trivial⟩ h
theorem gloT {K : PySem.W.Frag} {h : Heap} {mg : Str → Option Value} (c : He.SaysD faT fnT K) (cc : exT K = true) (X : K.In h) (G : h.Ns mainGlobals mg) : Glo (moT K) mg where
  free := fun x hx => He.free_ok X G (SaysD.mem c (List.mem_append_left _ (List.mem_map_of_mem hx)))
  con := chkC_ok X G (ba cc).1
theorem plnT : (cdsT.all fun p => plnD nmT sgT.fn p.2) = true := by decide +kernel
theorem clsT {K : PySem.W.Frag} {h : Heap} {mg : Str → Option Value} (cc : exT K = true) (X : K.In h) (G : h.Ns mainGlobals mg) : ∀ c cd, sgT.cls c = some cd → ClsOk (moT K) mg c cd := fun c cd e =>
  chkD_ok (M := moT K) (at_ := atT) X G rfl (fun _ => rfl) (List.all_eq_true.mp (ba cc).2 _ (getC_mem e)) (List.all_eq_true.mp plnT _ (getC_mem e))
theorem fngT {K : PySem.W.Frag} {h : Heap} {mg : Str → Option Value} (c : He.SaysD faT fnT K) (X : K.In h) (G : h.Ns mainGlobals mg) : ∀ f, gfT f = true → mg (nmT f) = some (.ref (He.fAd K (atT f))) := fun f hf => by
  have e := He.glo_ok X G (SaysD.mem c (List.mem_append_right _ (List.mem_map_of_mem (f := fun f => He.Fa.glo (nmT f)) (List.contains_iff_mem.mp hf))))
  unfold atT
  rw [if_pos hf]
  exact e
theorem facts {P : Program} {w : World} {K : PySem.W.Frag} {h : Heap} {mg : Str → Option Value} {f : Addr} {k n : Nat} (X : K.In h) (G : h.Ns mainGlobals mg) (hfa : mg ("law" : Str) = some (.ref f)) (c : He.SaysD faT fnT K) (cc : exT K = true) :
    ∃ fd : FuncData, (∀ (s : Shared) (v : Value), BindsTo s fd ⟨[v], []⟩ [("_law_script", v)]) ∧ ∀ base : Heap, K.In base → base.Ns mainGlobals mg → FnG P w K mg base (L2.CX P w) (k + 1) f fd ["_law_script"] (spF (moT K) (k + 1) n_law 1) := by
  obtain ⟨fd, F⟩ := c.def_ 16 (d := ge_law) rfl
  have F' : FunD K ge_law.name ge_law.qual ge_law.params ge_law.body ge_law.scope [] (ge_law.kws K) ((moT K).fa n_law) fd := F
  have e := hfa.symm.trans (fngT c X G n_law rfl)
  have e' : f = (moT K).fa n_law := by injection e with e; injection e
  subst e'
  have b := FunD.bindsA (ps := ["_law_script"]) F' fun _ _ _ _ _ _ us hl => match us, hl with | [_], _ => rfl
  exact ⟨fd, fun s v => b s [v] rfl, fun base Xb Gb => fn_one (M := moT K) (f := n_law) (d := d_law) (gloT c cc X G) (fngT c X G) rfl (clsT cc X G) (fun j hj => funs_ok (gloT c cc X G) (fngT c X G) (clsT cc X G) (hallT c) k j hj) F' gc_law rfl rfl gm_law⟩
end Py

set_option Elab.async false
set_option linter.all false
set_option maxRecDepth 100000
set_option maxHeartbeats 4000000
/-! PyLaw: plain lemmas for readings. -/
namespace Py
open PySem
theorem strOk_lit (s : String) : PyData.strOk (Str.ofString s) = true := by
  rw [Str.ofString_eq_toList]
  unfold PyData.strOk
  rw [Array.all_eq_true']
  intro x hx
  simp only [List.mem_toArray, List.mem_map] at hx
  obtain ⟨c, _, rfl⟩ := hx
  have v : c.val.toNat < 0xd800 ∨ (0xdfff < c.val.toNat ∧ c.val.toNat < 0x110000) := c.valid
  have e : c.toNat = c.val.toNat := rfl
  refine decide_eq_true ?_
  rw [e]; omega
theorem lit_inj {a b : String} : Str.ofString a = Str.ofString b ↔ a = b := by
  constructor
  · intro e
    rw [Str.ofString_eq_toList, Str.ofString_eq_toList] at e
    injection e with e
    have e2 : a.toList.map Char.toNat = b.toList.map Char.toNat := by simpa using e
    have e3 : a.toList = b.toList := by
      have inj : ∀ (x y : List Char), x.map Char.toNat = y.map Char.toNat → x = y := by
        intro x
        induction x with
        | nil => intro y h; cases y with
          | nil => rfl
          | cons => cases h
        | cons c r ih => intro y h; cases y with
          | nil => cases h
          | cons d s =>
            simp only [List.map_cons, List.cons.injEq] at h
            have : c = d := Char.ext (UInt32.toNat_inj.mp h.1)
            rw [this, ih s h.2]
      exact inj _ _ e2
    exact String.toList_inj.mp e3
  · intro e; rw [e]
theorem lit_beq (a b : String) : (Str.ofString a == Str.ofString b) = (a == b) := by
  rw [Bool.eq_iff_iff, beq_iff_eq, beq_iff_eq]; exact lit_inj
theorem bqd {α : Type} [BEq α] [LawfulBEq α] [DecidableEq α] {a b : α} : (a == b) = decide (a = b) := by
  rw [Bool.eq_iff_iff, beq_iff_eq, decide_eq_true_iff]
mutual
def dat : PV → PyData
  | .non => .none
  | .bl b => .bool b
  | .int i => .int i
  | .str s => .str s
  | .tup xs => .tuple (dats xs)
  | .ref _ => .none
def dats : List PV → List PyData
  | [] => []
  | x :: r => dat x :: dats r
end
mutual
def flat : PV → Bool
  | .tup xs => flats xs
  | .ref _ => false
  | _ => true
def flats : List PV → Bool
  | [] => true
  | x :: r => flat x && flats r
end
mutual
theorem Dat_dat {h : PH} : ∀ x, flat x = true → Dat h (dat x) x
  | .non, _ => rfl
  | .bl b, _ => rfl
  | .int i, _ => rfl
  | .str s, _ => rfl
  | .tup xs, f => ⟨xs, rfl, Dats_dats xs f⟩
  | .ref _, f => by cases f
theorem Dats_dats {h : PH} : ∀ x, flats x = true → Dats h (dats x) x
  | [], _ => rfl
  | x :: r, f => by
    obtain ⟨a, b⟩ := Bool.and_eq_true_iff.mp (show (flat x && flats r) = true from f)
    exact ⟨x, r, rfl, Dat_dat x a, Dats_dats r b⟩
end
mutual
theorem Dat_un {h : PH} : ∀ d x, flat x = true → Dat h d x → d = dat x
  | .none, x, f, e => by cases (show x = .non from e); rfl
  | .bool b, x, f, e => by cases (show x = .bl b from e); rfl
  | .int i, x, f, e => by cases (show x = .int i from e); rfl
  | .str s, x, f, e => by cases (show x = .str s from e); rfl
  | .tuple ds, x, f, e => by
    obtain ⟨xs, rfl, e⟩ := e
    show PyData.tuple ds = .tuple (dats xs)
    rw [Dats_un ds xs f e]
  | .list ds, x, f, e => by
    obtain ⟨xs, e, _⟩ := e
    cases x with
    | ref a => cases f
    | _ => cases e
  | .dict _, x, f, e => e.elim
theorem Dats_un {h : PH} : ∀ d x, flats x = true → Dats h d x → d = dats x
  | [], x, f, e => by cases (show x = [] from e); rfl
  | d :: ds, x, f, e => by
    obtain ⟨y, ys, rfl, e1, e2⟩ := e
    obtain ⟨a, b⟩ := Bool.and_eq_true_iff.mp (show (flat y && flats ys) = true from f)
    show d :: ds = dat y :: dats ys
    rw [Dat_un d y a e1, Dats_un ds ys b e2]
end
def okV (x : PV) : Bool := flat x && SeqAt.shaped (dat x)
theorem cmp_eq {x y : PV} {h : PH} {Q : Bool → PH → Prop} (a : okV x = true) (b : okV y = true) : cmpV .eq x y h Q = Q (PyData.eqv (dat x) (dat y)) h := by
  obtain ⟨a1, a2⟩ := Bool.and_eq_true_iff.mp a
  obtain ⟨b1, b2⟩ := Bool.and_eq_true_iff.mp b
  have gen : ((∃ d e, Dat h d x ∧ Dat h e y ∧ SeqAt.shaped d = true ∧ SeqAt.shaped e = true ∧ Q (PyData.eqv d e) h) ∨ ∃ a b xs ys, x = .ref a ∧ y = .ref b ∧ lstOf h (.ref a) = some xs ∧ lstOf h (.ref b) = some ys ∧ xs.length ≠ ys.length ∧ Q false h) = Q (PyData.eqv (dat x) (dat y)) h := by
    refine propext ⟨fun z => ?_, fun r => .inl ⟨_, _, Dat_dat x a1, Dat_dat y b1, a2, b2, r⟩⟩
    rcases z with ⟨d, e, p, q, _, _, r⟩ | ⟨p, q, xs, ys, rfl, _⟩
    · rw [← Dat_un d x a1 p, ← Dat_un e y b1 q]; exact r
    · exact absurd a1 Bool.false_ne_true
  cases x <;> cases y <;> first | exact gen | (show Q (decide (_ = _)) h = Q (_ == _) h; rw [bqd])
theorem cmp_ne {x y : PV} {h : PH} {Q : Bool → PH → Prop} (a : okV x = true) (b : okV y = true) : cmpV .ne x y h Q = Q (!PyData.eqv (dat x) (dat y)) h := by
  obtain ⟨a1, a2⟩ := Bool.and_eq_true_iff.mp a
  obtain ⟨b1, b2⟩ := Bool.and_eq_true_iff.mp b
  have gen : ((∃ d e, Dat h d x ∧ Dat h e y ∧ SeqAt.shaped d = true ∧ SeqAt.shaped e = true ∧ Q (!PyData.eqv d e) h) ∨ ∃ a b xs ys, x = .ref a ∧ y = .ref b ∧ lstOf h (.ref a) = some xs ∧ lstOf h (.ref b) = some ys ∧ xs.length ≠ ys.length ∧ Q true h) = Q (!PyData.eqv (dat x) (dat y)) h := by
    refine propext ⟨fun z => ?_, fun r => .inl ⟨_, _, Dat_dat x a1, Dat_dat y b1, a2, b2, r⟩⟩
    rcases z with ⟨d, e, p, q, _, _, r⟩ | ⟨p, q, xs, ys, rfl, _⟩
    · rw [← Dat_un d x a1 p, ← Dat_un e y b1 q]; exact r
    · exact absurd a1 Bool.false_ne_true
  cases x <;> cases y <;> first | exact gen | (show Q (!decide (_ = _)) h = Q (!(_ == _)) h; rw [bqd])
theorem eq_int {i j : Int} {h : PH} {Q : Bool → PH → Prop} : cmpV .eq (.int i) (.int j) h Q = Q (decide (i = j)) h := by
  rw [cmp_eq rfl rfl]; show Q (i == j) h = _; rw [bqd]
theorem ne_int {i j : Int} {h : PH} {Q : Bool → PH → Prop} : cmpV .ne (.int i) (.int j) h Q = Q (decide (i ≠ j)) h := by
  rw [cmp_ne rfl rfl]; show Q (!(i == j)) h = _; rw [bqd, decide_not]
theorem okV_lit {s : String} : okV (.str (Str.ofString s)) = true := by
  show (true && (PyData.strOk (Str.ofString s) && _)) = true
  rw [strOk_lit]; rfl
theorem eq_lit {i j : String} {h : PH} {Q : Bool → PH → Prop} : cmpV .eq (.str (Str.ofString i)) (.str (Str.ofString j)) h Q = Q (decide (i = j)) h := by
  rw [cmp_eq okV_lit okV_lit]; show Q (Str.ofString i == Str.ofString j) h = _; rw [lit_beq, bqd]
theorem ne_lit {i j : String} {h : PH} {Q : Bool → PH → Prop} : cmpV .ne (.str (Str.ofString i)) (.str (Str.ofString j)) h Q = Q (decide (i ≠ j)) h := by
  rw [cmp_ne okV_lit okV_lit]; show Q (!(Str.ofString i == Str.ofString j)) h = _; rw [lit_beq, bqd, decide_not]
/-- a call, entered -/
theorem call_in {G : Sig} {k f : Nat} {d : FD} {args : List PV} {h : PH} {Q : KQ} {X : KX} (e : G.fn f = some d) (l : args.length = d.np) :
    callS G (k + 1) (.fn f) args h Q X = evB G (callS G k) d.body (startL d args) h ⟨fun _ h' => Q .non h', Q, fun _ _ => False, fun x _ h' => X x h'⟩ := by
  have e0 : fill d.dfl args d.np = args := by
    show args ++ d.dfl.drop (d.dfl.length - (d.np - args.length)) = args
    rw [l, Nat.sub_self, Nat.sub_zero, List.drop_length, List.append_nil]
  refine propext ⟨fun ⟨d', e', _, _, q⟩ => ?_, fun q => ⟨d, e, by rw [e0, l], Nat.le_of_eq l, by rw [e0]; exact q⟩⟩
  rw [e] at e'; cases e'
  rw [e0] at q; exact q
theorem ex_int {i : Int} {P : Int → Prop} : (∃ j, PV.int i = .int j ∧ P j) = P i := propext ⟨fun ⟨j, e, p⟩ => by cases e; exact p, fun p => ⟨i, rfl, p⟩⟩
theorem ex_bl {i : Bool} {P : Bool → Prop} : (∃ j, PV.bl i = .bl j ∧ P j) = P i := propext ⟨fun ⟨j, e, p⟩ => by cases e; exact p, fun p => ⟨i, rfl, p⟩⟩
theorem ex_tup {i : List PV} {P : List PV → Prop} : (∃ j, PV.tup i = .tup j ∧ P j) = P i := propext ⟨fun ⟨j, e, p⟩ => by cases e; exact p, fun p => ⟨i, rfl, p⟩⟩
theorem ex_seqT {i : List PV} {h : PH} {P : List PV → Prop} : (∃ j, seqOf h (.tup i) = some j ∧ P j) = P i := propext ⟨fun ⟨j, e, p⟩ => by cases e; exact p, fun p => ⟨i, rfl, p⟩⟩
theorem ex_some {α : Type} {i : α} {P : α → Prop} : (∃ j, some i = some j ∧ P j) = P i := propext ⟨fun ⟨j, e, p⟩ => by cases e; exact p, fun p => ⟨i, rfl, p⟩⟩
theorem ex_var {v : PV} {P : PV → Prop} : (∃ j, (some (some v) : Option (Option PV)) = some (some j) ∧ P j) = P v := propext ⟨fun ⟨j, e, p⟩ => by cases e; exact p, fun p => ⟨v, rfl, p⟩⟩
theorem bAdd {i j : Int} {h : PH} {Q : KQ} : binV .add (.int i) (.int j) h Q = Q (.int (i + j)) h := rfl
theorem bAddS {i j : Str} {h : PH} {Q : KQ} : binV .add (.str i) (.str j) h Q = (i.length + j.length ≤ SZ ∧ Q (.str (i ++ j)) h) := rfl
theorem bAddT {i j : List PV} {h : PH} {Q : KQ} : binV .add (.tup i) (.tup j) h Q = (i.length + j.length ≤ SZ ∧ Q (.tup (i ++ j)) h) := rfl
theorem bAddL {a b : Nat} {h : PH} {Q : KQ} : binV .add (.ref a) (.ref b) h Q = ∃ xs ys, h[a]? = some (.lst xs) ∧ h[b]? = some (.lst ys) ∧ xs.length + ys.length ≤ SZ ∧ Q (.ref h.length) (h ++ [.lst (xs ++ ys)]) := rfl
theorem bSub {i j : Int} {h : PH} {Q : KQ} : binV .sub (.int i) (.int j) h Q = Q (.int (i - j)) h := rfl
theorem bMul {i j : Int} {h : PH} {Q : KQ} : binV .mul (.int i) (.int j) h Q = (mulOk i j ∧ Q (.int (i * j)) h) := rfl
theorem bDiv {i j : Int} {h : PH} {Q : KQ} : binV .fdiv (.int i) (.int j) h Q = (j ≠ 0 ∧ j.natAbs.log2 < 9000 ∧ Q (.int (i.fdiv j)) h) := rfl
theorem bMod {i j : Int} {h : PH} {Q : KQ} : binV .mod (.int i) (.int j) h Q = (j ≠ 0 ∧ Q (.int (i.fmod j)) h) := rfl
theorem bPow {i j : Int} {h : PH} {Q : KQ} : binV .pow (.int i) (.int j) h Q = ((0 ≤ j ∧ j ≤ 1000000 ∧ i.natAbs < 2 ^ 64) ∧ Q (.int (i ^ j.toNat)) h) := rfl
/-- division by a literal -/
theorem bDivL {i j : Int} {h : PH} {Q : KQ} (p : 0 < j) (l : j < 18446744073709551616) : binV .fdiv (.int i) (.int j) h Q = Q (.int (i / j)) h := by
  rw [bDiv, Int.fdiv_eq_ediv_of_nonneg _ (by omega)]
  refine propext ⟨fun q => q.2.2, fun q => ⟨by omega, ?_, q⟩⟩
  have : j.natAbs.log2 < 64 := (Nat.log2_lt (by omega)).mpr (by omega)
  omega
theorem bModL {i j : Int} {h : PH} {Q : KQ} (p : 0 < j) : binV .mod (.int i) (.int j) h Q = Q (.int (i % j)) h := by
  rw [bMod, Int.fmod_eq_emod_of_nonneg _ (by omega)]
  exact propext ⟨fun q => q.2, fun q => ⟨by omega, q⟩⟩
theorem bMulR {i j : Int} {h : PH} {Q : KQ} (p : -18446744073709551616 < j) (l : j < 18446744073709551616) : binV .mul (.int i) (.int j) h Q = Q (.int (i * j)) h := propext ⟨fun q => q.2, fun q => ⟨.inr (by omega), q⟩⟩
theorem bMulL {i j : Int} {h : PH} {Q : KQ} (p : -18446744073709551616 < j) (l : j < 18446744073709551616) : binV .mul (.int j) (.int i) h Q = Q (.int (j * i)) h := propext ⟨fun q => q.2, fun q => ⟨.inl (by omega), q⟩⟩
theorem cLt {i j : Int} {h : PH} {Q : Bool → PH → Prop} : cmpV .lt (.int i) (.int j) h Q = Q (decide (i < j)) h := rfl
theorem cLe {i j : Int} {h : PH} {Q : Bool → PH → Prop} : cmpV .le (.int i) (.int j) h Q = Q (decide (i ≤ j)) h := rfl
theorem cGt {i j : Int} {h : PH} {Q : Bool → PH → Prop} : cmpV .gt (.int i) (.int j) h Q = Q (decide (j < i)) h := rfl
theorem cGe {i j : Int} {h : PH} {Q : Bool → PH → Prop} : cmpV .ge (.int i) (.int j) h Q = Q (decide (j ≤ i)) h := rfl
theorem cIs {x : PV} {h : PH} {Q : Bool → PH → Prop} : cmpV .isN x .non h Q = Q (isNonB x) h := rfl
theorem cNot {x : PV} {h : PH} {Q : Bool → PH → Prop} : cmpV .notN x .non h Q = Q (!isNonB x) h := rfl
theorem iTup {xs : List PV} {i : Int} {h : PH} {Q : KQ} : idxV (.tup xs) (.int i) h Q = ∃ v, atI xs i = some v ∧ Q v h := rfl
theorem iRef {a : Nat} {i : Int} {h : PH} {Q : KQ} : idxV (.ref a) (.int i) h Q = ∃ xs, lstOf h (.ref a) = some xs ∧ ∃ v, atI xs i = some v ∧ Q v h := propext ⟨fun ⟨xs, v, a, b, c⟩ => ⟨xs, a, v, b, c⟩, fun ⟨xs, a, v, b, c⟩ => ⟨xs, v, a, b, c⟩⟩
theorem iT0 {x : PV} {r : List PV} {h : PH} {Q : KQ} : idxV (.tup (x :: r)) (.int 0) h Q = Q x h := by
  rw [iTup]; refine propext ⟨fun ⟨v, e, q⟩ => ?_, fun q => ⟨x, ?_, q⟩⟩
  · have : atI (x :: r) (0 : Int) = some x := by
      unfold atI ixN; rw [if_pos (by omega), if_pos (by first | (simp; done) | (simp; omega))]; rfl
    rw [this] at e; cases e; exact q
  · unfold atI ixN; rw [if_pos (by omega), if_pos (by first | (simp; done) | (simp; omega))]; rfl
theorem iT1 {x y : PV} {r : List PV} {h : PH} {Q : KQ} : idxV (.tup (x :: y :: r)) (.int 1) h Q = Q y h := by
  have e1 : atI (x :: y :: r) (1 : Int) = some y := by
    unfold atI ixN; rw [if_pos (by omega), if_pos (by first | (simp; done) | (simp; omega))]; rfl
  rw [iTup]; refine propext ⟨fun ⟨v, e, q⟩ => ?_, fun q => ⟨y, e1, q⟩⟩
  rw [e1] at e; cases e; exact q
theorem fMin {i j : Int} {h : PH} {Q : KQ} : bfV .min2 [.int i, .int j] h Q = Q (.int (if j < i then j else i)) h := rfl
theorem fMax {i j : Int} {h : PH} {Q : KQ} : bfV .max2 [.int i, .int j] h Q = Q (.int (if j > i then j else i)) h := rfl
theorem fAbs {i : Int} {h : PH} {Q : KQ} : bfV .abs [.int i] h Q = Q (.int (if i < 0 then -i else i)) h := rfl
theorem fLenT {xs : List PV} {h : PH} {Q : KQ} : bfV .len [.tup xs] h Q = Q (.int xs.length) h := propext ⟨fun ⟨_, e, q⟩ => by cases e; exact q, fun q => ⟨xs, rfl, q⟩⟩
theorem fLenL {a : Nat} {h : PH} {Q : KQ} : bfV .len [.ref a] h Q = ∃ xs, lstOf h (.ref a) = some xs ∧ Q (.int xs.length) h := rfl
theorem sz2 {P : Prop} {n : Nat} (h : n ≤ SZ) : (n ≤ SZ ∧ P) = P := propext ⟨fun q => q.2, fun q => ⟨h, q⟩⟩
theorem tyT {xs : List PV} {h : PH} : tyN h (.tup xs) = some "tuple" := rfl
theorem tyI {i : Int} {h : PH} : tyN h (.int i) = some "int" := rfl
theorem tyB {b : Bool} {h : PH} : tyN h (.bl b) = some "bool" := rfl
theorem tyS {s : Str} {h : PH} : tyN h (.str s) = some "str" := rfl
theorem truB {b : Bool} {h : PH} : truV h (.bl b) = some b := rfl
theorem truI {b : Int} {h : PH} : truV h (.int b) = some (b != 0) := rfl
theorem bPowL {i j : Int} {h : PH} {Q : KQ} (a : 0 ≤ j) (b : j ≤ 1000000) (p : -18446744073709551616 < i) (l : i < 18446744073709551616) : binV .pow (.int i) (.int j) h Q = Q (.int (i ^ j.toNat)) h := propext ⟨fun q => q.2, fun q => ⟨⟨a, b, by omega⟩, q⟩⟩
theorem lstOf_app {h t : PH} {a : Nat} {xs : List PV} (e : lstOf h (.ref a) = some xs) : lstOf (h ++ t) (.ref a) = some xs := by
  unfold lstOf at e ⊢
  by_cases hl : a < h.length
  · simp only [List.getElem?_append_left hl]; exact e
  · simp only [List.getElem?_eq_none (Nat.le_of_not_lt hl)] at e; cases e
theorem lstOf_new {h : PH} {xs : List PV} : lstOf (h ++ [.lst xs]) (.ref h.length) = some xs := by
  unfold lstOf; simp
theorem items_ref {h : PH} {a : Nat} : itemsOf h (.ref a) = lstOf h (.ref a) := rfl
theorem items_tup {h : PH} {a : List PV} : itemsOf h (.tup a) = some a := rfl
theorem iter_inv {live : PH → Prop} {body : PV → Loc → PH → (Loc → PH → Prop) → Prop} {fin : Loc → PH → Prop} (Inv : Loc → PH → Prop) (hl : ∀ l h, Inv l h → live h) (hf : ∀ l h, Inv l h → fin l h) :
    ∀ (xs : List PV), (∀ x ∈ xs, ∀ l h K, Inv l h → (∀ l' h', Inv l' h' → K l' h') → body x l h K) → ∀ l h, Inv l h → iterL live body fin xs l h
  | [], _, l, h, i => ⟨hl l h i, hf l h i⟩
  | x :: r, hb, l, h, i => ⟨hl l h i, hb x (List.mem_cons_self ..) l h _ i fun l' h' i' => iter_inv Inv hl hf r (fun y hy => hb y (List.mem_cons_of_mem _ hy)) l' h' i'⟩
theorem mem_range {lo : Int} {n : Nat} {x : PV} (hx : x ∈ rangeL lo n) : ∃ k : Nat, k < n ∧ x = .int (lo + k) := by
  unfold rangeL at hx
  obtain ⟨k, a, b⟩ := List.mem_map.mp hx
  exact ⟨k, List.mem_range.mp a, b.symm⟩
theorem atI_nat {α : Type} {xs : List α} {k : Nat} : atI xs (k : Int) = xs[k]? := by
  unfold atI ixN
  rw [if_pos (Int.natCast_nonneg k)]
  by_cases hk : k < xs.length
  · rw [if_pos (by omega)]; rfl
  · rw [if_neg (by omega), List.getElem?_eq_none (Nat.le_of_not_lt hk)]; rfl
theorem bMulOk {i j : Int} {h : PH} {Q : KQ} (p : -18446744073709551616 < j ∧ j < 18446744073709551616) : binV .mul (.int i) (.int j) h Q = Q (.int (i * j)) h := bMulR p.1 p.2
theorem live_ref {a : Nat} {xs : List PV} {h : PH} : liveL (.ref a) xs h = (lstOf h (.ref a) = some xs) := rfl
theorem live_tup {a xs : List PV} {h : PH} : liveL (.tup a) xs h = True := rfl
theorem ex_cons {α : Type} {a : α} {b : List α} {P : α → List α → Prop} : (∃ v r, a :: b = v :: r ∧ P v r) = P a b := propext ⟨fun ⟨v, r, e, q⟩ => by cases e; exact q, fun q => ⟨a, b, rfl, q⟩⟩
end Py

set_option Elab.async false
set_option linter.all false
set_option maxRecDepth 100000
set_option maxHeartbeats 4000000
/-! PyLaw2: repr, comprehensions, sequences. -/
namespace Py
open PySem
/-! ### what repr takes -/
/-- flat data of depth at most n, shown in at most c signs -/
structure Rp (n c : Nat) (v : PV) : Prop where
  fl : flat v = true
  lay : (dat v).canLay0 = true
  dep : (dat v).depth ≤ n
  sho : (dat v).showable = true
  len : (dat v).shown.length ≤ c
theorem Rp.mono {n c n' c' : Nat} {v : PV} (r : Rp n c v) (h : n ≤ n') (h' : c ≤ c') : Rp n' c' v := ⟨r.fl, r.lay, Nat.le_trans r.dep h, r.sho, Nat.le_trans r.len h'⟩
theorem Rp.int {i : Int} (h : i.natAbs < 10 ^ 20) : Rp 0 21 (.int i) := by
  refine ⟨rfl, rfl, Nat.le_refl _, ?_, ?_⟩
  · show decide (i.natAbs.log2 < 1920) = true
    refine decide_eq_true ?_
    by_cases h0 : i.natAbs = 0
    · rw [h0]; decide
    · have : i.natAbs.log2 < 70 := (Nat.log2_lt h0).mpr (by omega)
      omega
  · have e := int_text_length_le10 (k := 20) (by decide) h
    show (Str.ofString (toString i)).length ≤ 21
    rw [ofString_length]; exact e
theorem Rp.bl {b : Bool} : Rp 0 5 (.bl b) := by
  refine ⟨rfl, rfl, Nat.le_refl _, rfl, ?_⟩
  cases b <;> decide +kernel
theorem Rp.non : Rp 0 5 .non := ⟨rfl, rfl, Nat.le_refl _, rfl, by decide +kernel⟩
theorem Rp.lit {s : String} {c : Nat} (h : (reprText (Str.ofString s)).length ≤ c) : Rp 0 c (.str (Str.ofString s)) := ⟨rfl, strOk_lit s, Nat.le_refl _, rfl, h⟩
theorem dats_app : ∀ (xs ys : List PV), dats (xs ++ ys) = dats xs ++ dats ys
  | [], _ => rfl
  | x :: xs, ys => congrArg (dat x :: ·) (dats_app xs ys)
theorem Rps {n c : Nat} : ∀ {xs : List PV}, (∀ x ∈ xs, Rp n c x) → flats xs = true ∧ PyData.canLayAll0 (dats xs) = true ∧ PyData.depthAll (dats xs) ≤ n ∧ PyData.showableAll (dats xs) = true ∧
    ((PyData.shownAll (dats xs)).map (·.length)).sum ≤ c * xs.length ∧ (PyData.shownAll (dats xs)).length = xs.length
  | [], _ => ⟨rfl, rfl, Nat.zero_le _, rfl, Nat.zero_le _, rfl⟩
  | x :: xs, h => by
    obtain ⟨a, b, c', d, e, f⟩ := Rps (fun y hy => h y (List.mem_cons_of_mem _ hy))
    have r := h x (List.mem_cons_self ..)
    refine ⟨by show (flat x && flats xs) = true; rw [r.fl, a]; rfl, by show (PyData.canLay0 _ && PyData.canLayAll0 _) = true; rw [r.lay, b]; rfl, ?_, by show (PyData.showable _ && PyData.showableAll _) = true; rw [r.sho, d]; rfl, ?_, by show (PyData.shownAll (dats xs)).length + 1 = xs.length + 1; rw [f]⟩
    · show max (PyData.depth (dat x)) (PyData.depthAll (dats xs)) ≤ n
      exact Nat.max_le.mpr ⟨r.dep, c'⟩
    · show (PyData.shown (dat x)).length + ((PyData.shownAll (dats xs)).map (·.length)).sum ≤ c * (xs.length + 1)
      have := r.len
      rw [Nat.mul_add, Nat.mul_one]; omega
theorem Rp.tup {n c m : Nat} {xs : List PV} (h : ∀ x ∈ xs, Rp n c x) (hm : xs.length ≤ m) : Rp (n + 1) ((c + 2) * m + 3) (.tup xs) := by
  obtain ⟨a, b, c', d, e, f⟩ := Rps h
  refine ⟨a, b, Nat.succ_le_succ c', d, ?_⟩
  have t := tupleText_len_le (PyData.shownAll (dats xs))
  show (tupleText (PyData.shownAll (dats xs))).length ≤ _
  rw [f] at t
  have h1 : c * xs.length ≤ c * m := Nat.mul_le_mul_left _ hm
  have h2 : (c + 2) * m = c * m + 2 * m := Nat.add_mul _ _ _
  omega
theorem ok_of {n c : Nat} {v : PV} (r : Rp n c v) (h : n ≤ 64) : okV v = true := by
  unfold okV SeqAt.shaped
  rw [r.fl, r.lay, decide_eq_true (Nat.le_trans r.dep h)]; rfl
/-- repr of a tuple -/
theorem s_repr {n c : Nat} {xs : List PV} {h : PH} {Q : KQ} (r : Rp n c (.tup xs)) (hn : n ≤ 64) (hc : c ≤ 16777216) (q : Q (.str (dat (.tup xs)).shown) h) : bfV .repr1 [.tup xs] h Q := by
  have o := ok_of r hn
  exact ⟨_, rfl, Dat_dat _ r.fl, (Bool.and_eq_true_iff.mp o).2, r.sho, Nat.le_trans r.len hc, q⟩
/-! ### comprehensions whose terms leave the heap as it is -/
theorem comp_all {live : PH → Prop} {h0 : PH} {body : PV → PH → (Option PV → PH → Prop) → Prop} {fin : PH → Prop} (P : PV → Prop) (hl : ∀ acc, live (h0 ++ [.lst acc])) :
    ∀ (items acc : List PV), (∀ x ∈ items, ∀ acc k, (∀ v, P v → k (some v) (h0 ++ [.lst acc])) → body x (h0 ++ [.lst acc]) k) → (∀ v ∈ acc, P v) → acc.length + items.length ≤ SZ →
      (∀ vs, vs.length = acc.length + items.length → (∀ v ∈ vs, P v) → fin (h0 ++ [.lst vs])) → compL live h0.length body fin items (h0 ++ [.lst acc])
  | [], acc, hb, ha, hz, hf => ⟨hl acc, hf acc rfl ha⟩
  | x :: r, acc, hb, ha, hz, hf => ⟨hl acc, hb x (List.mem_cons_self ..) acc _ fun v pv => ⟨acc, by simp, by simp at hz; omega, by
      have e : (h0 ++ [PO.lst acc]).set h0.length (.lst (acc ++ [v])) = h0 ++ [.lst (acc ++ [v])] := by
        rw [List.set_append_right _ _ (Nat.le_refl _), Nat.sub_self]; rfl
      rw [e]
      refine comp_all P hl r (acc ++ [v]) (fun y hy => hb y (List.mem_cons_of_mem _ hy)) (fun w hw => ?_) (by simp at hz ⊢; omega) (fun vs hv => hf vs (by simp at hv ⊢; omega))
      rcases List.mem_append.mp hw with hw | hw
      · exact ha w hw
      · rw [List.mem_singleton.mp hw]; exact pv⟩⟩
/-- a comprehension whose terms are told by f -/
theorem comp_fun {live : PH → Prop} {h0 : PH} {body : PV → PH → (Option PV → PH → Prop) → Prop} {fin : PH → Prop} (f : PV → Option PV) (hl : ∀ acc, live (h0 ++ [.lst acc])) :
    ∀ (items acc : List PV), (∀ x ∈ items, ∀ acc k, k (f x) (h0 ++ [.lst acc]) → body x (h0 ++ [.lst acc]) k) → acc.length + items.length ≤ SZ → fin (h0 ++ [.lst (acc ++ items.filterMap f)]) → compL live h0.length body fin items (h0 ++ [.lst acc])
  | [], acc, hb, hz, hf => ⟨hl acc, by rw [List.filterMap_nil, List.append_nil] at hf; exact hf⟩
  | x :: r, acc, hb, hz, hf => ⟨hl acc, hb x (List.mem_cons_self ..) acc _ (by
      cases e : f x with
      | none =>
        rw [List.filterMap_cons_none e] at hf
        exact comp_fun f hl r acc (fun y hy => hb y (List.mem_cons_of_mem _ hy)) (by simp at hz ⊢; omega) hf
      | some v =>
        rw [List.filterMap_cons_some e] at hf
        refine ⟨acc, by simp, by simp at hz; omega, ?_⟩
        have e2 : (h0 ++ [PO.lst acc]).set h0.length (.lst (acc ++ [v])) = h0 ++ [.lst (acc ++ [v])] := by
          rw [List.set_append_right _ _ (Nat.le_refl _), Nat.sub_self]; rfl
        rw [e2]
        exact comp_fun f hl r (acc ++ [v]) (fun y hy => hb y (List.mem_cons_of_mem _ hy)) (by simp at hz ⊢; omega) (by rw [List.append_assoc]; exact hf))⟩
/-! ### sequences -/
theorem at_last {α : Type} {xs : List α} {x : α} : atI (xs ++ [x]) (-1 : Int) = some x := by
  unfold atI ixN
  rw [if_neg (by omega), if_pos (by simp; omega)]
  have : (-1 + ((xs ++ [x]).length : Int)).toNat = xs.length := by simp; omega
  rw [this]; simp
theorem at_last1 {α : Type} {xs : List α} {x y : α} : atI (xs ++ [x, y]) (-1 : Int) = some y := by
  rw [show xs ++ [x, y] = (xs ++ [x]) ++ [y] by simp]; exact at_last
theorem at_last2 {α : Type} {xs : List α} {x y : α} : atI (xs ++ [x, y]) (-2 : Int) = some x := by
  unfold atI ixN
  rw [if_neg (by omega), if_pos (by simp; omega)]
  have : (-2 + ((xs ++ [x, y]).length : Int)).toNat = xs.length := by simp; omega
  rw [this]; simp
theorem cut_last {α : Type} {xs : List α} {x : α} : cut (xs ++ [x]) none (some (-1)) = xs := by
  unfold cut sIx
  dsimp only
  have : (-1 + ((xs ++ [x]).length : Int)).toNat = xs.length := by simp; omega
  rw [if_pos (by omega), this]; simp
theorem cut_last2 {α : Type} {xs : List α} {x y : α} : cut (xs ++ [x, y]) none (some (-2)) = xs := by
  unfold cut sIx
  dsimp only
  have : (-2 + ((xs ++ [x, y]).length : Int)).toNat = xs.length := by simp; omega
  rw [if_pos (by omega), this]; simp
theorem inT {a : Str} {xs : List PV} {h : PH} {Q : Bool → PH → Prop} : cmpV .inn (.str a) (.tup xs) h Q = (xs.all flP = true ∧ Q (xs.any fun z => eqP z (.str a)) h) :=
  propext ⟨fun ⟨ys, e, _, f, q⟩ => by cases e; exact ⟨f, q⟩, fun ⟨f, q⟩ => ⟨xs, rfl, rfl, f, q⟩⟩
theorem notBl {x : PV} {b : Bool} {h : PH} {Q : Bool → PH → Prop} : cmpV .notN x (.bl b) h Q = (notRef x = true ∧ Q (!isBlB b x) h) := rfl
theorem isBl {x : PV} {b : Bool} {h : PH} {Q : Bool → PH → Prop} : cmpV .isN x (.bl b) h Q = (notRef x = true ∧ Q (isBlB b x) h) := rfl
theorem slT {xs : List PV} {lo hi : Option Int} {h : PH} {Q : KQ} : slcV (.tup xs) lo hi h Q = Q (.tup (cut xs lo hi)) h := rfl
theorem slL {a : Nat} {lo hi : Option Int} {h : PH} {Q : KQ} : slcV (.ref a) lo hi h Q = ∃ xs, lstOf h (.ref a) = some xs ∧ Q (.ref h.length) (h ++ [.lst (cut xs lo hi)]) := rfl
theorem fTupL {a : Nat} {h : PH} {Q : KQ} : bfV .tuple1 [.ref a] h Q = ∃ xs, lstOf h (.ref a) = some xs ∧ Q (.tup xs) h := rfl
theorem fTupT {xs : List PV} {h : PH} {Q : KQ} : bfV .tuple1 [.tup xs] h Q = Q (.tup xs) h := rfl
theorem fListL {a : Nat} {h : PH} {Q : KQ} : bfV .list1 [.ref a] h Q = ∃ xs, lstOf h (.ref a) = some xs ∧ Q (.ref h.length) (h ++ [.lst xs]) := rfl
theorem fInt {i : Int} {h : PH} {Q : KQ} : bfV .int1 [.int i] h Q = Q (.int i) h := rfl
theorem fIntB {i : Bool} {h : PH} {Q : KQ} : bfV .int1 [.bl i] h Q = Q (.int (if i then 1 else 0)) h := rfl
theorem mApp {a : Nat} {y : PV} {h : PH} {Q : KQ} : bmV .append (.ref a) [y] h Q = ∃ xs, h[a]? = some (.lst xs) ∧ xs.length < SZ ∧ Q .non (h.set a (.lst (xs ++ [y]))) := rfl
theorem wipe0 {l : Loc} : wipeL l [] = l := rfl
theorem wipe1 {l : Loc} {v : Nat} {vs : List Nat} : wipeL l (v :: vs) = (wipeL l vs).set v none := rfl
theorem get_new {h : PH} {o : PO} : (h ++ [o])[h.length]? = some o := by simp
theorem set_new {h : PH} {o u : PO} : (h ++ [o]).set h.length u = h ++ [u] := by
  rw [List.set_append_right _ _ (Nat.le_refl _), Nat.sub_self]; rfl
theorem ex_lst {a : List PV} {P : List PV → Prop} : (∃ acc, some (PO.lst a) = some (PO.lst acc) ∧ P acc) = P a := propext ⟨fun ⟨j, e, p⟩ => by cases e; exact p, fun p => ⟨a, rfl, p⟩⟩
theorem iL0 {a : Nat} {x : PV} {r : List PV} {h : PH} {Q : KQ} (e : lstOf h (.ref a) = some (x :: r)) : idxV (.ref a) (.int 0) h Q = Q x h := by
  have e1 : atI (x :: r) (0 : Int) = some x := by
    unfold atI ixN; rw [if_pos (by omega), if_pos (by first | (simp; done) | (simp; omega))]; rfl
  rw [iRef]
  exact propext ⟨fun ⟨xs, e2, v, e3, q⟩ => by rw [e] at e2; cases e2; rw [e1] at e3; cases e3; exact q, fun q => ⟨_, e, x, e1, q⟩⟩
theorem iAt {xs : List PV} {i : Int} {v : PV} (e : atI xs i = some v) {h : PH} {Q : KQ} : idxV (.tup xs) (.int i) h Q = Q v h := by
  rw [iTup]; exact propext ⟨fun ⟨w, e2, q⟩ => by rw [e] at e2; cases e2; exact q, fun q => ⟨v, e, q⟩⟩
theorem iM1 {xs : List PV} {x : PV} {h : PH} {Q : KQ} : idxV (.tup (xs ++ [x])) (.int (-1)) h Q = Q x h := iAt at_last
theorem iM1' {xs : List PV} {x y : PV} {h : PH} {Q : KQ} : idxV (.tup (xs ++ [x, y])) (.int (-1)) h Q = Q y h := iAt at_last1
theorem iM2 {xs : List PV} {x y : PV} {h : PH} {Q : KQ} : idxV (.tup (xs ++ [x, y])) (.int (-2)) h Q = Q x h := iAt at_last2
end Py

set_option Elab.async false
set_option linter.all false
set_option maxRecDepth 100000
set_option maxHeartbeats 4000000
/-! PyLaw3: instances, dicts, what stays of a heap. -/
namespace Py
open PySem
section
variable {G : Sig} {h : PH} {p c f : Nat} {fs : List (Nat × PV)} {cd : CD} {v : PV}
/-- a field read -/
theorem ex_attr {R : PV → Prop} (e : h[p]? = some (.ins c fs)) (hc : G.cls c = some cd) (hf : cd.fields.contains f = true) (g : getN f fs = some v) :
    (∃ p' c' fs' v' cd', PV.ref p = .ref p' ∧ h[p']? = some (.ins c' fs') ∧ G.cls c' = some cd' ∧ cd'.fields.contains f = true ∧ getN f fs' = some v' ∧ R v') = R v := by
  refine propext ⟨fun ⟨p', c', fs', v', cd', e1, e2, e3, _, e5, q⟩ => ?_, fun q => ⟨p, c, fs, v, cd, rfl, e, hc, hf, g, q⟩⟩
  cases e1
  rw [e] at e2; cases e2
  rw [g] at e5; cases e5
  exact q
/-- a field set -/
theorem ex_set {R : Nat → Nat → List (Nat × PV) → Prop} (e : h[p]? = some (.ins c fs)) (hc : G.cls c = some cd) (hf : cd.fields.contains f = true) (hl : fs.length < 900) :
    (∃ p' c' fs' cd', PV.ref p = .ref p' ∧ h[p']? = some (.ins c' fs') ∧ G.cls c' = some cd' ∧ cd'.fields.contains f = true ∧ fs'.length < 900 ∧ R p' c' fs') = R p c fs := by
  refine propext ⟨fun ⟨p', c', fs', cd', e1, e2, _, _, _, q⟩ => ?_, fun q => ⟨p, c, fs, cd, rfl, e, hc, hf, hl, q⟩⟩
  cases e1
  rw [e] at e2; cases e2
  exact q
/-- a method found -/
theorem ex_meth {m : Nat} {R : Nat → Prop} (e : h[p]? = some (.ins c fs)) (hc : G.cls c = some cd) (hm : getM m cd.meths = some f) :
    (∃ p' c' fs' cd' f', PV.ref p = .ref p' ∧ h[p']? = some (.ins c' fs') ∧ G.cls c' = some cd' ∧ getM m cd'.meths = some f' ∧ R f') = R f := by
  refine propext ⟨fun ⟨p', c', fs', cd', f', e1, e2, e3, e4, q⟩ => ?_, fun q => ⟨p, c, fs, cd, f, rfl, e, hc, hm, q⟩⟩
  cases e1
  rw [e] at e2; cases e2
  rw [hc] at e3; cases e3
  rw [hm] at e4; cases e4
  exact q
end
section
variable {h : PH} {p : Nat} {kvs : List (PV × PV)} {k z : PV}
theorem ty_dic (e : h[p]? = some (.dic kvs)) : tyN h (.ref p) = some "dict" := by
  unfold tyN; dsimp only; rw [e]
/-- d.get(k, z) -/
theorem ex_dget {R : List (PV × PV) → Prop} (e : h[p]? = some (.dic kvs)) (hk : isK k = true) : (∃ p' kvs', PV.ref p = .ref p' ∧ h[p']? = some (.dic kvs') ∧ isK k = true ∧ R kvs') = R kvs := by
  refine propext ⟨fun ⟨p', kvs', e1, e2, _, q⟩ => ?_, fun q => ⟨p, kvs, rfl, e, hk, q⟩⟩
  cases e1
  rw [e] at e2; cases e2
  exact q
/-- d[k] = z -/
theorem put_dic {Q : PH → Prop} (e : h[p]? = some (.dic kvs)) (hk : isK k = true) (hl : kvs.length < SZ) : putV (.ref p) k z h Q = Q (h.set p (.dic (putD k z kvs))) := by
  unfold putV; dsimp only; rw [e]; dsimp only
  exact propext ⟨fun q => q.2.2, fun q => ⟨hk, hl, q⟩⟩
/-- xs[i] = z -/
theorem put_lst {Q : PH → Prop} {xs : List PV} {i : Int} {j : Nat} (e : h[p]? = some (.lst xs)) (hj : ixN xs.length i = some j) : putV (.ref p) (.int i) z h Q = Q (h.set p (.lst (xs.set j z))) := by
  unfold putV; dsimp only; rw [e]; dsimp only
  refine propext ⟨fun ⟨a, b, c, d, q⟩ => ?_, fun q => ⟨i, j, rfl, hj, q⟩⟩
  cases c; rw [hj] at d; cases d; exact q
end
/-! ### what stays -/
/-- h' is h, but for the objects of D, and longer -/
structure Stays (D : List Nat) (h h' : PH) : Prop where
  le : h.length ≤ h'.length
  at_ : ∀ a o, a ∉ D → h[a]? = some o → h'[a]? = some o
theorem Stays.refl {D : List Nat} {h : PH} : Stays D h h := ⟨Nat.le_refl _, fun _ _ _ e => e⟩
theorem Stays.trans {D : List Nat} {h h1 h2 : PH} (a : Stays D h h1) (b : Stays D h1 h2) : Stays D h h2 := ⟨Nat.le_trans a.le b.le, fun x o n e => b.at_ x o n (a.at_ x o n e)⟩
theorem Stays.mono {D D' : List Nat} {h h1 : PH} (a : Stays D h h1) (s : ∀ x ∈ D, x ∈ D') : Stays D' h h1 := ⟨a.le, fun x o n e => a.at_ x o (fun z => n (s x z)) e⟩
theorem Stays.app {D : List Nat} {h t : PH} : Stays D h (h ++ t) := ⟨by simp, fun a o _ e => by rw [List.getElem?_append_left (List.getElem?_eq_some_iff.mp e).1]; exact e⟩
theorem Stays.set {D : List Nat} {h : PH} {p : Nat} {o : PO} (m : p ∈ D) : Stays D h (h.set p o) := ⟨by simp, fun a u n e => by
  rw [List.getElem?_set_ne (show p ≠ a from fun z => n (by rw [← z]; exact m))]; exact e⟩
/-- an object that is new stays out of the way -/
theorem Stays.set_new {D : List Nat} {h h1 : PH} {p : Nat} {o : PO} (s : Stays D h h1) (n : h.length ≤ p) : Stays D h (h1.set p o) := ⟨by simpa using s.le, fun a u na e => by
  have := (List.getElem?_eq_some_iff.mp e).1
  rw [List.getElem?_set_ne (by omega)]; exact s.at_ a u na e⟩
theorem Stays.lst {D : List Nat} {h h1 : PH} {a : Nat} {xs : List PV} (s : Stays D h h1) (n : a ∉ D) (e : lstOf h (.ref a) = some xs) : lstOf h1 (.ref a) = some xs := by
  unfold lstOf at e ⊢
  dsimp only at e ⊢
  cases q : h[a]? with
  | none => rw [q] at e; cases e
  | some o => rw [s.at_ a o n q]; rw [q] at e; exact e

theorem get_app {h t : PH} {p : Nat} {o : PO} (e : h[p]? = some o) : (h ++ t)[p]? = some o := by
  rw [List.getElem?_append_left (List.getElem?_eq_some_iff.mp e).1]; exact e
theorem lst_got {h : PH} {p : Nat} {xs : List PV} (e : h[p]? = some (.lst xs)) : lstOf h (.ref p) = some xs := by
  unfold lstOf; dsimp only; rw [e]
end Py

set_option Elab.async false
set_option linter.all false
set_option maxRecDepth 100000
set_option maxHeartbeats 4000000
/-! PyLaw4: loops by turns, equality and repr of lists. -/
namespace Py
open PySem
theorem iter_invN {live : PH → Prop} {body : PV → Loc → PH → (Loc → PH → Prop) → Prop} {fin : Loc → PH → Prop} (Inv : Nat → Loc → PH → Prop) (hl : ∀ i l h, Inv i l h → live h) :
    ∀ (xs : List PV) (b : Nat), (∀ i x, xs[i]? = some x → ∀ l h K, Inv (b + i) l h → (∀ l' h', Inv (b + i + 1) l' h' → K l' h') → body x l h K) → (∀ l h, Inv (b + xs.length) l h → fin l h) → ∀ l h, Inv b l h → iterL live body fin xs l h
  | [], b, _, hf, l, h, i => ⟨hl b l h i, hf l h i⟩
  | x :: r, b, hb, hf, l, h, i => ⟨hl b l h i, hb 0 x rfl l h _ i fun l' h' i' => iter_invN Inv hl r (b + 1) (fun j y hy l h K iv hK => hb (j + 1) y (by simpa using hy) l h K (by rw [show b + (j + 1) = b + 1 + j by omega]; exact iv) (by rw [show b + (j + 1) + 1 = b + 1 + j + 1 by omega]; exact hK))
      (fun l h iv => hf l h (by rw [List.length_cons, show b + (r.length + 1) = b + 1 + r.length by omega]; exact iv)) l' h' i'⟩
theorem ty_get {h : PH} {p : Nat} {xs : List PV} (e : h[p]? = some (.lst xs)) : tyN h (.ref p) = some "list" := by
  unfold tyN; dsimp only; rw [e]
theorem lstOf_set {h : PH} {a p : Nat} {o : PO} (n : a ≠ p) : lstOf (h.set p o) (.ref a) = lstOf h (.ref a) := by
  unfold lstOf; dsimp only; rw [List.getElem?_set_ne (Ne.symm n)]
theorem lstOf_lt {h : PH} {a : Nat} {xs : List PV} (e : lstOf h (.ref a) = some xs) : a < h.length := by
  unfold lstOf at e; dsimp only at e
  cases q : h[a]? with
  | none => rw [q] at e; cases e
  | some o => exact (List.getElem?_eq_some_iff.mp q).1
mutual
theorem eqv_self : ∀ d : PyData, d.canLay0 = true → PyData.eqv d d = true
  | .none, _ => rfl
  | .bool b, _ => by cases b <;> rfl
  | .int i, _ => beq_self_eq_true i
  | .str x, _ => beq_self_eq_true x
  | .list xs, h => eqvs_self xs h
  | .tuple xs, h => eqvs_self xs h
  | .dict _, h => by cases h
theorem eqvs_self : ∀ d : List PyData, PyData.canLayAll0 d = true → PyData.eqvAll d d = true
  | [], _ => rfl
  | x :: xs, h => by
    obtain ⟨a, b⟩ := Bool.and_eq_true_iff.mp (show (PyData.canLay0 x && PyData.canLayAll0 xs) = true from h)
    show (PyData.eqv x x && PyData.eqvAll xs xs) = true
    rw [eqv_self x a, eqvs_self xs b]; rfl
end
/-- flat lists side by side -/
theorem eq_lists {a b : Nat} {xs ys : List PV} {h : PH} {Q : Bool → PH → Prop} (ha : lstOf h (.ref a) = some xs) (hb : lstOf h (.ref b) = some ys) (f1 : flats xs = true) (f2 : flats ys = true) (s1 : SeqAt.shaped (.list (dats xs)) = true) (s2 : SeqAt.shaped (.list (dats ys)) = true)
    (q : Q (PyData.eqvAll (dats xs) (dats ys)) h) : cmpV .eq (.ref a) (.ref b) h Q :=
  .inl ⟨.list (dats xs), .list (dats ys), ⟨xs, ha, Dats_dats xs f1⟩, ⟨ys, hb, Dats_dats ys f2⟩, s1, s2, q⟩
theorem ne_lists {a b : Nat} {xs ys : List PV} {h : PH} {Q : Bool → PH → Prop} (ha : lstOf h (.ref a) = some xs) (hb : lstOf h (.ref b) = some ys) (f1 : flats xs = true) (f2 : flats ys = true) (s1 : SeqAt.shaped (.list (dats xs)) = true) (s2 : SeqAt.shaped (.list (dats ys)) = true)
    (q : Q (!PyData.eqvAll (dats xs) (dats ys)) h) : cmpV .ne (.ref a) (.ref b) h Q :=
  .inl ⟨.list (dats xs), .list (dats ys), ⟨xs, ha, Dats_dats xs f1⟩, ⟨ys, hb, Dats_dats ys f2⟩, s1, s2, q⟩
theorem eq_nil {a b : Nat} {xs : List PV} {h : PH} {Q : Bool → PH → Prop} (ha : lstOf h (.ref a) = some xs) (hb : lstOf h (.ref b) = some []) (q : Q xs.isEmpty h) : cmpV .eq (.ref a) (.ref b) h Q := by
  cases xs with
  | nil => exact eq_lists ha hb rfl rfl rfl rfl q
  | cons x r => exact .inr ⟨a, b, _, _, rfl, rfl, ha, hb, by simp, q⟩
theorem ne_nil {a b : Nat} {xs : List PV} {h : PH} {Q : Bool → PH → Prop} (ha : lstOf h (.ref a) = some xs) (hb : lstOf h (.ref b) = some []) (q : Q (!xs.isEmpty) h) : cmpV .ne (.ref a) (.ref b) h Q := by
  cases xs with
  | nil => exact ne_lists ha hb rfl rfl rfl rfl q
  | cons x r => exact .inr ⟨a, b, _, _, rfl, rfl, ha, hb, by simp, q⟩
theorem s_reprL {n c k a : Nat} {xs : List PV} {h : PH} {Q : KQ} (e : lstOf h (.ref a) = some xs) (r : ∀ x ∈ xs, Rp n c x) (hk : xs.length ≤ k) (hn : n ≤ 63) (hc : (c + 2) * k + 3 ≤ 16777216) (q : Q (.str (PyData.list (dats xs)).shown) h) : bfV .repr1 [.ref a] h Q := by
  obtain ⟨a1, b, c', d, e', f⟩ := Rps r
  have sh : SeqAt.shaped (.list (dats xs)) = true := by
    unfold SeqAt.shaped
    show (PyData.canLayAll0 (dats xs) && decide (PyData.depthAll (dats xs) + 1 ≤ 64)) = true
    rw [b, decide_eq_true (show PyData.depthAll (dats xs) + 1 ≤ 64 by omega)]; rfl
  refine ⟨.list (dats xs), rfl, ⟨xs, e, Dats_dats xs a1⟩, sh, d, ?_, q⟩
  have t := listText_len_le (PyData.shownAll (dats xs))
  show (listText (PyData.shownAll (dats xs))).length ≤ _
  rw [f] at t
  have h1 : c * xs.length ≤ c * k := Nat.mul_le_mul_left _ hk
  have h2 : (c + 2) * k = c * k + 2 * k := Nat.add_mul _ _ _
  show _ ≤ 16777216
  omega
/-- what repr takes may be compared -/
theorem shaped_rps {n c : Nat} {xs : List PV} (r : ∀ x ∈ xs, Rp n c x) (hn : n ≤ 63) : SeqAt.shaped (.list (dats xs)) = true := by
  obtain ⟨a1, b, c', d, e', f⟩ := Rps r
  unfold SeqAt.shaped
  show (PyData.canLayAll0 (dats xs) && decide (PyData.depthAll (dats xs) + 1 ≤ 64)) = true
  rw [b, decide_eq_true (show PyData.depthAll (dats xs) + 1 ≤ 64 by omega)]; rfl
end Py

set_option Elab.async false
set_option linter.all false
set_option maxRecDepth 100000
set_option maxHeartbeats 4000000
/-! PyStep: a def stepped through, statement by statement; each change gives a heap of its own name. -/
namespace Py
open PySem
/-- one object put for -/
structure Up (h : PH) (p : Nat) (o : PO) (h' : PH) : Prop where
  len : h'.length = h.length
  at_ : h'[p]? = some o
  ne : ∀ a, a ≠ p → h'[a]? = h[a]?
/-- one object more -/
structure Nw (h : PH) (o : PO) (h' : PH) : Prop where
  len : h'.length = h.length + 1
  at_ : h'[h.length]? = some o
  old : ∀ a, a < h.length → h'[a]? = h[a]?
theorem Up.of {h : PH} {p : Nat} {o u : PO} (e : h[p]? = some u) : Up h p o (h.set p o) :=
  ⟨by simp, List.getElem?_set_self (List.getElem?_eq_some_iff.mp e).1, fun a n => List.getElem?_set_ne (Ne.symm n)⟩
theorem Nw.of {h : PH} {o : PO} : Nw h o (h ++ [o]) := ⟨by simp, get_new, fun a l => List.getElem?_append_left l⟩
theorem Up.stays {h h' : PH} {p : Nat} {o : PO} {D : List Nat} (u : Up h p o h') (m : p ∈ D) : Stays D h h' := ⟨Nat.le_of_eq u.len.symm, fun a o' n e => by rw [u.ne a fun z => n (z ▸ m)]; exact e⟩
theorem Nw.stays {h h' : PH} {o : PO} {D : List Nat} (u : Nw h o h') : Stays D h h' := ⟨by rw [u.len]; omega, fun a o' n e => by rw [u.old a (List.getElem?_eq_some_iff.mp e).1]; exact e⟩
theorem lt_of {h : PH} {a : Nat} {o : PO} (e : h[a]? = some o) : a < h.length := (List.getElem?_eq_some_iff.mp e).1
theorem Up.get {h h' : PH} {p a : Nat} {o u : PO} (x : Up h p o h') (n : a ≠ p) (e : h[a]? = some u) : h'[a]? = some u := (x.ne a n).trans e
theorem Nw.get {h h' : PH} {a : Nat} {o u : PO} (x : Nw h o h') (e : h[a]? = some u) : h'[a]? = some u := (x.old a (lt_of e)).trans e
/-- nothing that stood is changed -/
abbrev Gr (h h' : PH) : Prop := Stays [] h h'
theorem Gr.get {h h' : PH} {a : Nat} {o : PO} (s : Gr h h') (e : h[a]? = some o) : h'[a]? = some o := s.at_ a o (by simp) e
theorem Gr.stays {h h' : PH} {D : List Nat} (s : Gr h h') : Stays D h h' := s.mono (by simp)
/-- what was changed was new -/
theorem Stays.gr {h h1 h2 : PH} {D : List Nat} (g : Gr h h1) (s : Stays D h1 h2) (n : ∀ a ∈ D, h.length ≤ a) : Gr h h2 :=
  ⟨Nat.le_trans g.le s.le, fun a o _ e => s.at_ a o (fun m => absurd (lt_of e) (Nat.not_lt.mpr (n a m))) (g.get e)⟩
def fld (G : Sig) (c f : Nat) : Bool := match G.cls c with
  | some cd => cd.fields.contains f
  | none => false
def mth (G : Sig) (c m : Nat) : Option Nat := match G.cls c with
  | some cd => getM m cd.meths
  | none => none
theorem fld_ok {G : Sig} {c f : Nat} (h : fld G c f = true) : ∃ cd, G.cls c = some cd ∧ cd.fields.contains f = true := by
  unfold fld at h
  split at h
  · exact ⟨_, by assumption, h⟩
  · cases h
theorem mth_ok {G : Sig} {c m f : Nat} (h : mth G c m = some f) : ∃ cd, G.cls c = some cd ∧ getM m cd.meths = some f := by
  unfold mth at h
  split at h
  · exact ⟨_, by assumption, h⟩
  · cases h
section
variable {G : Sig} {k : Nat} {X : KX} {l : Loc} {h : PH} {Q : KQ} {D : En} {b : B}
theorem cs_le (G : Sig) (k : Nat) : CSle (callS G k) (callS G k) := callS_le k k (Nat.le_refl k)
theorem mE_ {e : E} {Q' : KQ} (q : evE G (callS G k) X e l h Q') (c : ∀ v h1, Q' v h1 → Q v h1) : evE G (callS G k) X e l h Q := evE_mono (cs_le G k) (fun _ _ z => z) e l h _ _ c q
theorem mEs_ {e : Es} {Q' R : List PV → PH → Prop} (q : evEs G (callS G k) X e l h Q') (c : ∀ v h1, Q' v h1 → R v h1) : evEs G (callS G k) X e l h R := evEs_mono (cs_le G k) (fun _ _ z => z) e l h _ _ c q
theorem mT_ {e : C} {Q' R : Bool → PH → Prop} (q : evT G (callS G k) X e l h Q') (c : ∀ v h1, Q' v h1 → R v h1) : evT G (callS G k) X e l h R := evT_mono (cs_le G k) (fun _ _ z => z) e l h _ _ c q
/-! ### expressions -/
theorem xV {i : Nat} {v : PV} (e : l[i]? = some (some v)) (q : Q v h) : evE G (callS G k) X (.var i) l h Q := ⟨v, e, q⟩
theorem xI {i : Int} (q : Q (.int i) h) : evE G (callS G k) X (.int i) l h Q := q
theorem xS {s : Str} (q : Q (.str s) h) : evE G (callS G k) X (.str s) l h Q := q
theorem xB {s : Bool} (q : Q (.bl s) h) : evE G (callS G k) X (.bl s) l h Q := q
theorem xN (q : Q .non h) : evE G (callS G k) X .non l h Q := q
theorem xG {g : Nat} {v : PV} (e : G.con g = some v) (q : Q v h) : evE G (callS G k) X (.glob g) l h Q := ⟨v, e, q⟩
theorem xBin {o : BO} {a c : E} (q : evE G (callS G k) X a l h fun x h1 => evE G (callS G k) X c l h1 fun y h2 => binV o x y h2 Q) : evE G (callS G k) X (.bin o a c) l h Q := q
theorem xNeg {a : E} {i : Int} (q : evE G (callS G k) X a l h fun x h1 => x = .int i ∧ Q (.int (-i)) h1) : evE G (callS G k) X (.neg a) l h Q := by
  show evE G (callS G k) X a l h _
  exact mE_ q fun _ _ q => ⟨i, q.1, q.2⟩
theorem xNt {a : E} {b : Bool} (q : evE G (callS G k) X a l h fun x h1 => x = .bl b ∧ Q (.bl (!b)) h1) : evE G (callS G k) X (.nt a) l h Q := by
  show evE G (callS G k) X a l h _
  exact mE_ q fun _ _ q => ⟨b, q.1, q.2⟩
theorem xCmp {o : CO} {a c : E} (q : evE G (callS G k) X a l h fun x h1 => evE G (callS G k) X c l h1 fun y h2 => cmpV o x y h2 fun r h3 => Q (.bl r) h3) : evE G (callS G k) X (.cmp o a c) l h Q := q
theorem xIte {c : C} {a d : E} (q : evT G (callS G k) X c l h fun r h1 => if r = true then evE G (callS G k) X a l h1 Q else evE G (callS G k) X d l h1 Q) : evE G (callS G k) X (.ite c a d) l h Q := q
theorem xTup {es : Es} (q : evEs G (callS G k) X es l h fun xs h1 => xs.length ≤ SZ ∧ Q (.tup xs) h1) : evE G (callS G k) X (.tup es) l h Q := q
theorem xLst {es : Es} (q : evEs G (callS G k) X es l h fun xs h1 => xs.length ≤ SZ ∧ ∀ h2, Nw h1 (.lst xs) h2 → Q (.ref h1.length) h2) : evE G (callS G k) X (.lst es) l h Q := mEs_ q fun xs h1 q => ⟨q.1, q.2 _ Nw.of⟩
theorem xDic0 (q : ∀ h2, Nw h (.dic []) h2 → Q (.ref h.length) h2) : evE G (callS G k) X .dic0 l h Q := q _ Nw.of
theorem xIdx {a c : E} (q : evE G (callS G k) X a l h fun x h1 => evE G (callS G k) X c l h1 fun y h2 => idxV x y h2 Q) : evE G (callS G k) X (.idx a c) l h Q := q
theorem xDup {a c : E} (q : evE G (callS G k) X a l h fun x h1 => tyN h1 x = some "dict" ∧ evE G (callS G k) X c l h1 fun y h2 => ∃ p r kvs more, x = .ref p ∧ y = .ref r ∧ p ≠ r ∧ h2[p]? = some (.dic kvs) ∧ h2[r]? = some (.dic more) ∧ kvs.length + more.length ≤ SZ ∧ ∀ h3, Up h2 p (.dic (mergeU kvs more)) h3 → Q .non h3) : evE G (callS G k) X (.dup a c) l h Q := by
  show evE G (callS G k) X a l h _
  refine mE_ q fun x h1 q => ⟨q.1, mE_ q.2 fun y h2 q => ?_⟩
  obtain ⟨p, r, kvs, more, a1, a2, a3, a4, a5, a6, q⟩ := q
  exact ⟨p, r, kvs, more, a1, a2, a3, a4, a5, a6, q _ (Up.of a4)⟩
theorem xDx {a c : E} (q : evE G (callS G k) X a l h fun x h1 => evE G (callS G k) X c l h1 fun y h2 => dxiV x y h2 Q) : evE G (callS G k) X (.dxi a c) l h Q := q
theorem xDzip {a c : E} (q : evE G (callS G k) X a l h fun x h1 => evE G (callS G k) X c l h1 fun y h2 => ∃ xs ys, lstOf h2 x = some xs ∧ lstOf h2 y = some ys ∧ xs.length = ys.length ∧ xs.all isK = true ∧ ∀ h3, Nw h2 (.dic (mergeP [] (xs.zip ys))) h3 → Q (.ref h2.length) h3) : evE G (callS G k) X (.dzip a c) l h Q := by
  show evE G (callS G k) X a l h _
  refine mE_ q fun x h1 q => mE_ q fun y h2 q => ?_
  obtain ⟨xs, ys, e1, e2, e3, e4, q⟩ := q
  exact ⟨xs, ys, e1, e2, e3, e4, q _ Nw.of⟩
theorem xLzip {a c : E} (q : evE G (callS G k) X a l h fun x h1 => evE G (callS G k) X c l h1 fun y h2 => ∃ xs ys, lstOf h2 x = some xs ∧ lstOf h2 y = some ys ∧ xs.length = ys.length ∧ ∀ h3, Nw h2 (.lst (zipT xs ys)) h3 → Q (.ref h2.length) h3) : evE G (callS G k) X (.lzip a c) l h Q := by
  show evE G (callS G k) X a l h _
  refine mE_ q fun x h1 q => mE_ q fun y h2 q => ?_
  obtain ⟨xs, ys, e1, e2, e3, q⟩ := q
  exact ⟨xs, ys, e1, e2, e3, q _ Nw.of⟩
theorem xSlc {a : E} {lo hi : OE} (q : evE G (callS G k) X a l h fun x h1 => evO G (callS G k) X lo l h1 fun u h2 => evO G (callS G k) X hi l h2 fun w h3 => slcV x u w h3 Q) : evE G (callS G k) X (.slc a lo hi) l h Q := q
theorem xON {R : Option Int → PH → Prop} (q : R none h) : evO G (callS G k) X .no l h R := q
theorem xOS {e : E} {R : Option Int → PH → Prop} {i : Int} (q : evE G (callS G k) X e l h fun x h1 => x = .int i ∧ R (some i) h1) : evO G (callS G k) X (.so e) l h R := mE_ q fun _ _ q => ⟨i, q.1, q.2⟩
/-- a field -/
theorem xAt {o : E} {f : Nat} (q : evE G (callS G k) X o l h fun x h1 => ∃ p c fs v, x = .ref p ∧ h1[p]? = some (.ins c fs) ∧ fld G c f = true ∧ getN f fs = some v ∧ Q v h1) : evE G (callS G k) X (.attr o f) l h Q := by
  show evE G (callS G k) X o l h _
  refine mE_ q fun x h1 q => ?_
  obtain ⟨p, c, fs, v, a1, a2, a3, a4, q⟩ := q
  obtain ⟨cd, b1, b2⟩ := fld_ok a3
  exact ⟨p, c, fs, v, cd, a1, a2, b1, b2, a4, q⟩
theorem xAtV {i f p c : Nat} {fs : List (Nat × PV)} {v : PV} (e : l[i]? = some (some (.ref p))) (a2 : h[p]? = some (.ins c fs)) (a3 : fld G c f = true) (a4 : getN f fs = some v) (q : Q v h) : evE G (callS G k) X (.attr (.var i) f) l h Q := xAt (xV e ⟨p, c, fs, v, rfl, a2, a3, a4, q⟩)
theorem xCall {f : Nat} {es : Es} (q : evEs G (callS G k) X es l h fun xs h1 => callS G k (.fn f) xs h1 Q X) : evE G (callS G k) X (.call f es) l h Q := q
theorem xMk {c : Nat} {es : Es} (q : evEs G (callS G k) X es l h fun xs h1 => callS G k (.mk c) xs h1 Q X) : evE G (callS G k) X (.mk c es) l h Q := q
theorem xMk0 {c : Nat} {cd : CD} (e : G.cls c = some cd) (e2 : cd.bare = true) (q : ∀ h2, Nw h (.ins c []) h2 → Q (.ref h.length) h2) : evE G (callS G k) X (.mk0 c) l h Q := ⟨cd, e, e2, q _ Nw.of⟩
/-- a method -/
theorem xMt {o : E} {m : Nat} {es : Es} (q : evE G (callS G k) X o l h fun x h1 => ∃ p c fs f, x = .ref p ∧ h1[p]? = some (.ins c fs) ∧ mth G c m = some f ∧ evEs G (callS G k) X es l h1 fun xs h2 => callS G k (.fn f) (x :: xs) h2 Q X) : evE G (callS G k) X (.meth o m es) l h Q := by
  show evE G (callS G k) X o l h _
  refine mE_ q fun x h1 q => ?_
  obtain ⟨p, c, fs, f, a1, a2, a3, q⟩ := q
  obtain ⟨cd, b1, b2⟩ := mth_ok a3
  exact ⟨p, c, fs, cd, f, a1, a2, b1, b2, q⟩
theorem xIni {c : Nat} {cd : CD} {es : Es} (e : G.cls c = some cd) (q : evEs G (callS G k) X es l h fun xs h1 => callS G k (.fn cd.init) xs h1 Q X) : evE G (callS G k) X (.ini c es) l h Q := ⟨cd, e, q⟩
theorem xIsi {f : BF} {a : E} {t : String} (q : evE G (callS G k) X a l h fun x h1 => tyN h1 x = some t ∧ Q (.bl (isB (tyOf f) t)) h1) : evE G (callS G k) X (.isi f a) l h Q := by
  show evE G (callS G k) X a l h _
  exact mE_ q fun _ _ q => ⟨t, q.1, q.2⟩
theorem xBf {f : BF} {es : Es} (q : evEs G (callS G k) X es l h fun xs h1 => bfV f xs h1 Q) : evE G (callS G k) X (.bf f es) l h Q := q
theorem xBm {m : BM} {o : E} {es : Es} (q : evE G (callS G k) X o l h fun x h1 => tyN h1 x = some (bmT m) ∧ evEs G (callS G k) X es l h1 fun xs h2 => bmV m x xs h2 Q) : evE G (callS G k) X (.bm m o es) l h Q := q
theorem aN {R : List PV → PH → Prop} (q : R [] h) : evEs G (callS G k) X .nil l h R := q
theorem aC {e : E} {es : Es} {R : List PV → PH → Prop} (q : evE G (callS G k) X e l h fun x h1 => evEs G (callS G k) X es l h1 fun xs h2 => R (x :: xs) h2) : evEs G (callS G k) X (.cons e es) l h R := q
theorem a1 {e : E} {R : List PV → PH → Prop} (q : evE G (callS G k) X e l h fun x h1 => R [x] h1) : evEs G (callS G k) X (.cons e .nil) l h R := q
/-! ### tests -/
theorem tV {e : E} {R : Bool → PH → Prop} {r : Bool} (q : evE G (callS G k) X e l h fun x h1 => truV h1 x = some r ∧ R r h1) : evT G (callS G k) X (.v e) l h R := mE_ q fun _ _ q => ⟨r, q.1, q.2⟩
theorem tC {o : CO} {a c : E} {R : Bool → PH → Prop} (q : evE G (callS G k) X a l h fun x h1 => evE G (callS G k) X c l h1 fun y h2 => cmpV o x y h2 R) : evT G (callS G k) X (.cmp o a c) l h R := q
theorem tNt {c : C} {R : Bool → PH → Prop} (q : evT G (callS G k) X c l h fun r h1 => R (!r) h1) : evT G (callS G k) X (.nt c) l h R := q
theorem cEqS {a c : String} {R : Bool → PH → Prop} (q : R (decide (a = c)) h) : cmpV .eq (.str (Str.ofString a)) (.str (Str.ofString c)) h R := by rw [eq_lit]; exact q
theorem cEqT {a c : Str} {R : Bool → PH → Prop} (q : R (decide (a = c)) h) : cmpV .eq (.str a) (.str c) h R := q
theorem cIsN {x : PV} {R : Bool → PH → Prop} (q : R (isNonB x) h) : cmpV .isN x .non h R := q
theorem cNtN {x : PV} {R : Bool → PH → Prop} (q : R (!isNonB x) h) : cmpV .notN x .non h R := q
theorem cEqI {a c : Int} {R : Bool → PH → Prop} (q : R (decide (a = c)) h) : cmpV .eq (.int a) (.int c) h R := by rw [eq_int]; exact q
/-! ### statements -/
theorem sE_ {e : E} (q : evE G (callS G k) (fun x h' => D.ex x l h') e l h fun _ h1 => evB G (callS G k) b l h1 D) : evB G (callS G k) (.cons (.exp e) b) l h D := q
theorem sAs {i : Nat} {e : E} (hi : i < l.length) (q : evE G (callS G k) (fun x h' => D.ex x l h') e l h fun v h1 => evB G (callS G k) b (l.set i (some v)) h1 D) : evB G (callS G k) (.cons (.asg (.nm i) e) b) l h D :=
  evE_mono (cs_le G k) (fun _ _ z => z) e l h _ _ (fun v h1 q => ⟨hi, q⟩) q
/-- x, y, .. = e -/
theorem sAT {ts : Ts} {e : E} {xs : List PV} (q : evE G (callS G k) (fun x h' => D.ex x l h') e l h fun v h1 => seqOf h1 v = some xs ∧ xs.length = lenTs ts ∧ evGs G (callS G k) (fun x h' => D.ex x l h') ts xs l h1 fun l' h' => evB G (callS G k) b l' h' D) : evB G (callS G k) (.cons (.asg (.tup ts) e) b) l h D :=
  evE_mono (cs_le G k) (fun _ _ z => z) e l h _ _ (fun v h1 q => ⟨xs, q.1, q.2.1, q.2.2⟩) q
/-- x.f = e -/
theorem sF {i f p : Nat} {e : E} (hi : l[i]? = some (some (.ref p))) (q : evE G (callS G k) (fun x h' => D.ex x l h') e l h fun v h1 => ∃ c fs, h1[p]? = some (.ins c fs) ∧ fld G c f = true ∧ fs.length < 900 ∧ ∀ h2, Up h1 p (.ins c (putN f v fs)) h2 → evB G (callS G k) b l h2 D) : evB G (callS G k) (.cons (.asg (.attr (.var i) f) e) b) l h D :=
  evE_mono (cs_le G k) (fun _ _ z => z) e l h _ _ (fun v h1 q => by
    obtain ⟨c, fs, a1, a2, a3, q⟩ := q
    obtain ⟨cd, b1, b2⟩ := fld_ok a2
    exact ⟨.ref p, hi, p, c, fs, cd, rfl, a1, b1, b2, a3, q _ (Up.of a1)⟩) q
/-- x.f += e -/
theorem sFA {i f p c : Nat} {fs : List (Nat × PV)} {o : BO} {e : E} {v : PV} (hi : l[i]? = some (some (.ref p))) (e1 : h[p]? = some (.ins c fs)) (hf : fld G c f = true) (hg : getN f fs = some v) (hl : fs.length < 900)
    (q : evE G (callS G k) (fun x h' => D.ex x l h') e l h fun y h2 => augV o v y h2 fun z h3 => h3[p]? = some (.ins c fs) ∧ ∀ h4, Up h3 p (.ins c (putN f z fs)) h4 → evB G (callS G k) b l h4 D) : evB G (callS G k) (.cons (.augF (.var i) f o e) b) l h D := by
  obtain ⟨cd, b1, b2⟩ := fld_ok hf
  exact ⟨.ref p, hi, p, c, fs, v, cd, rfl, e1, b1, b2, hg, evE_mono (cs_le G k) (fun _ _ z => z) e l h _ _ (fun y h2 q => augV_mono (fun z h3 q => ⟨fs, q.1, hl, q.2 _ (Up.of q.1)⟩) q) q⟩
/-- x[i] = e -/
theorem sSub {o i e : E} (q : evE G (callS G k) (fun x h' => D.ex x l h') e l h fun v h1 => evE G (callS G k) (fun x h' => D.ex x l h') o l h1 fun x h2 => evE G (callS G k) (fun x h' => D.ex x l h') i l h2 fun y h3 => putV x y v h3 fun h4 => evB G (callS G k) b l h4 D) : evB G (callS G k) (.cons (.asg (.sub o i) e) b) l h D := q
theorem sR {e : E} (q : evE G (callS G k) (fun x h' => D.ex x l h') e l h D.rt) : evB G (callS G k) (.cons (.ret e) b) l h D := q
theorem sRN (q : D.rt .non h) : evB G (callS G k) (.cons .retN b) l h D := q
theorem sEnd (q : D.nx l h) : evB G (callS G k) .nil l h D := q
/-- a branch by its test -/
theorem sIf {c : C} {a d : B} {r : Bool} (q : evT G (callS G k) (fun x h' => D.ex x l h') c l h fun r' h1 => r' = r ∧ evB G (callS G k) (cond r a d) l h1 { D with nx := fun l' h' => evB G (callS G k) b l' h' D }) : evB G (callS G k) (.cons (.ife c a d) b) l h D := by
  refine evT_mono (cs_le G k) (fun _ _ z => z) c l h _ _ (fun r' h1 q => ?_) q
  obtain ⟨rfl, q⟩ := q
  cases r' <;> exact q
theorem sWhl {c : C} {d : B} (n : Nat) (q : whlN (fun l' h' K => evT G (callS G k) (fun x h' => D.ex x l' h') c l' h' fun r h1 => if r = true then evB G (callS G k) d l' h1 { D with nx := K, ct := K } else evB G (callS G k) b l' h1 D) n l h) : evB G (callS G k) (.cons (.whl c d) b) l h D := ⟨n, q⟩
theorem sFor {t : T} {it : I} {d : B} (q : evI G (callS G k) (fun x h' => D.ex x l h') it l h fun items live h1 =>
      iterL live (fun v l' h' K => evG G (callS G k) (fun x h' => D.ex x l' h') t v l' h' fun l2 h2 => evB G (callS G k) d l2 h2 { D with nx := K, ct := K }) (fun l' h' => evB G (callS G k) b l' h' D) items l h1) : evB G (callS G k) (.cons (.for t it d) b) l h D := q
theorem iSeq {e : E} {R : KI} {xs : List PV} (q : evE G (callS G k) X e l h fun x h1 => itemsOf h1 x = some xs ∧ R xs (liveL x xs) h1) : evI G (callS G k) X (.seq e) l h R := mE_ q fun x h1 q => ⟨xs, q.1, q.2⟩
/-- a call -/
theorem xFn {f : Nat} {d : FD} {args : List PV} (e : G.fn f = some d) (l' : args.length = d.np) (q : evB G (callS G k) d.body (startL d args) h ⟨fun _ h' => Q .non h', Q, fun _ _ => False, fun x _ h' => X x h'⟩) : callS G (k + 1) (.fn f) args h Q X := by
  rw [call_in e l']; exact q
theorem xNew {c : Nat} {cd : CD} {args : List PV} (e : G.cls c = some cd) (q : ∀ h1, Nw h (.ins c []) h1 → callS G k (.fn cd.init) (.ref h.length :: args) h1 (fun v h' => v = .non ∧ Q (.ref h.length) h') X) : callS G (k + 1) (.mk c) args h Q X := ⟨cd, e, q _ Nw.of⟩
theorem cM {f : FR} {args : List PV} {Q' : KQ} (q : callS G k f args h Q' X) (c : ∀ v h1, Q' v h1 → Q v h1) : callS G k f args h Q X := callS_mono c (fun _ _ z => z) q
/-! ### comprehensions -/
theorem comp_inv {live : PH → Prop} {d : Nat} {body : PV → PH → (Option PV → PH → Prop) → Prop} {fin : PH → Prop} (Inv : Nat → List PV → PH → Prop) (hl : ∀ i acc h, Inv i acc h → live h) :
    ∀ (xs : List PV) (b : Nat) (acc : List PV) (h : PH), Inv b acc h → h[d]? = some (.lst acc) → acc.length + xs.length ≤ SZ →
      (∀ (i : Nat) (x : PV) (acc : List PV) (h : PH) (K : Option PV → PH → Prop), xs[i]? = some x → Inv (b + i) acc h → h[d]? = some (.lst acc) →
        (∀ (y : PV) (h' : PH), h'[d]? = some (.lst acc) → (∀ h2, Up h' d (.lst (acc ++ [y])) h2 → Inv (b + i + 1) (acc ++ [y]) h2) → K (some y) h') → (∀ h', h'[d]? = some (.lst acc) → Inv (b + i + 1) acc h' → K none h') → body x h K) →
      (∀ acc h, Inv (b + xs.length) acc h → h[d]? = some (.lst acc) → fin h) → compL live d body fin xs h
  | [], b, acc, h, i0, e, z, hb, hf => ⟨hl _ _ _ i0, hf acc h i0 e⟩
  | x :: r, b, acc, h, i0, e, z, hb, hf => by
    have rest : ∀ (acc' : List PV) (h' : PH), Inv (b + 1) acc' h' → h'[d]? = some (.lst acc') → acc'.length ≤ acc.length + 1 → compL live d body fin r h' := fun acc' h' i1 e1 z1 => by
      refine comp_inv Inv hl r (b + 1) acc' h' i1 e1 (by simp at z; omega) (fun i y a h2 K hy iv ea c1 c2 => hb (i + 1) y a h2 K (by simpa using hy) (by rw [show b + (i + 1) = b + 1 + i by omega]; exact iv) ea (by rw [show b + (i + 1) + 1 = b + 1 + i + 1 by omega]; exact c1) (by rw [show b + (i + 1) + 1 = b + 1 + i + 1 by omega]; exact c2)) (fun a h2 iv => hf a h2 (by rw [List.length_cons, show b + (r.length + 1) = b + 1 + r.length by omega]; exact iv))
    refine ⟨hl _ _ _ i0, hb 0 x acc h _ rfl i0 e (fun y h' e' c => ?_) fun h' e' iv => rest acc h' iv e' (by omega)⟩
    exact ⟨acc, e', by simp at z; omega, rest _ _ (c _ (Up.of e')) (Up.of e').at_ (by simp)⟩
theorem xLc {elt : E} {i : Nat} {it : I} (hi : i < l.length) (q : evI G (callS G k) X it l h fun items live h1 => ∀ h2, Nw h1 (.lst []) h2 →
      compL live h1.length (fun x h2 K => evE G (callS G k) (fun _ _ => False) elt ((l.set i none).set i (some x)) h2 fun y h5 => K (some y) h5) (fun h2 => Q (.ref h1.length) h2) items h2) : evE G (callS G k) X (.lc elt (.nm i) it .no) l h Q := by
  refine evI_mono (cs_le G k) (fun _ _ z => z) it l h _ _ (fun items live h1 q => ?_) q
  refine compL_mono (fun x h2 R R' kR q => ?_) (fun _ z => z) items _ (q _ Nw.of)
  exact ⟨by simp [wipeL, tNs]; exact hi, evE_mono (cs_le G k) (fun _ _ z => z) elt _ h2 _ _ (fun y h5 q => kR _ _ q) q⟩
theorem xLcG {elt : E} {t : T} {it : I} (q : evI G (callS G k) X it l h fun items live h1 => ∀ h2, Nw h1 (.lst []) h2 →
      compL live h1.length (fun x h2 K => evG G (callS G k) (fun _ _ => False) t x (wipeL l (tNs t)) h2 fun l' h3 => evE G (callS G k) (fun _ _ => False) elt l' h3 fun y h5 => K (some y) h5) (fun h2 => Q (.ref h1.length) h2) items h2) : evE G (callS G k) X (.lc elt t it .no) l h Q := by
  refine evI_mono (cs_le G k) (fun _ _ z => z) it l h _ _ (fun items live h1 q => ?_) q
  refine compL_mono (fun x h2 R R' kR q => ?_) (fun _ z => z) items _ (q _ Nw.of)
  exact evG_mono (cs_le G k) (fun _ _ z => z) t x _ h2 _ _ (fun l' h3 q => evE_mono (cs_le G k) (fun _ _ z => z) elt l' h3 _ _ (fun y h5 q => kR _ _ q) q) q
theorem iZip {a c : E} {R : KI} {xs ys : List PV} (q : evE G (callS G k) X a l h fun x h1 => evE G (callS G k) X c l h1 fun y h2 => seqOf h2 x = some xs ∧ lstOf h2 y = some ys ∧ R (zipT xs ys) (fun h => liveL x xs h ∧ liveL y ys h) h2) : evI G (callS G k) X (.zip2 a c) l h R := by
  show evE G (callS G k) X a l h _
  refine mE_ q fun x h1 q => mE_ q fun y h2 q => ⟨xs, ys, q.1, q.2.1, q.2.2⟩
end
end Py

set_option Elab.async false
set_option linter.all false
set_option maxRecDepth 100000
set_option maxHeartbeats 4000000
/-! Terms: what a tuple tells, what an object holds. -/
namespace Py
open PySem
inductive Tm where
  | num (i : Int) | tru (b : Bool) | nam (s : Str) | slf | new (c : Str) (ts : List Tm) | eld (w : Str) (ts : List Tm)
  | fld (t : Tm) (f : Str) | cal (t : Tm) (w : Str) (ts : List Tm) | nt (t : Tm) | two (s : Str) (a b : Tm) | ite (a b c : Tm) | lett (x : Str) (a b : Tm) | sett (t : Tm) (f : Str) (b : Tm)
mutual
/-- the tuple -/
def pl : Tm → PV
  | .num i => .tup [.str "number", .int i]
  | .tru b => .tup [.str "truth", .bl b]
  | .nam s => .tup [.str "name", .str s]
  | .slf => .tup [.str "self"]
  | .new c ts => .tup [.str "new", .str c, .tup (pls ts)]
  | .eld w ts => .tup [.str "elder", .str w, .tup (pls ts)]
  | .fld t f => .tup [.str "field", pl t, .str f]
  | .cal t w ts => .tup [.str "call", pl t, .str w, .tup (pls ts)]
  | .nt t => .tup [.str "not", pl t]
  | .two s a b => .tup [.str "two", .str s, pl a, pl b]
  | .ite a b c => .tup [.str "if", pl a, pl b, pl c]
  | .lett x a b => .tup [.str "let", .str x, pl a, pl b]
  | .sett t f b => .tup [.str "set", pl t, .str f, pl b]
def pls : List Tm → List PV
  | [] => []
  | t :: ts => pl t :: pls ts
end
mutual
/-- how deep calls go to make it -/
def dep : Tm → Nat
  | .num _ => 0
  | .tru _ => 0
  | .nam _ => 0
  | .slf => 0
  | .new _ ts => deps ts + 1
  | .eld _ ts => deps ts + 1
  | .fld t _ => dep t + 1
  | .cal t _ ts => max (dep t) (deps ts) + 1
  | .nt t => dep t + 1
  | .two _ a b => max (dep a) (dep b) + 1
  | .ite a b c => max (dep a) (max (dep b) (dep c)) + 1
  | .lett _ a b => max (dep a) (dep b) + 1
  | .sett t _ b => max (dep t) (dep b) + 1
def deps : List Tm → Nat
  | [] => 0
  | t :: ts => max (dep t) (deps ts)
end
mutual
/-- no list of terms is long -/
def fit : Tm → Prop
  | .num _ => True
  | .tru _ => True
  | .nam _ => True
  | .slf => True
  | .new _ ts => ts.length ≤ 900 ∧ fits ts
  | .eld _ ts => ts.length ≤ 900 ∧ fits ts
  | .fld t _ => fit t
  | .cal t _ ts => ts.length ≤ 900 ∧ fit t ∧ fits ts
  | .nt t => fit t
  | .two _ a b => fit a ∧ fit b
  | .ite a b c => fit a ∧ fit b ∧ fit c
  | .lett _ a b => fit a ∧ fit b
  | .sett t _ b => fit t ∧ fit b
def fits : List Tm → Prop
  | [] => True
  | t :: ts => fit t ∧ fits ts
end
mutual
def szT : Tm → Nat
  | .num _ => 1
  | .tru _ => 1
  | .nam _ => 1
  | .slf => 1
  | .new _ ts => 1 + szTs ts
  | .eld _ ts => 1 + szTs ts
  | .fld t _ => 1 + szT t
  | .cal t _ ts => 1 + szT t + szTs ts
  | .nt t => 1 + szT t
  | .two _ a b => 1 + szT a + szT b
  | .ite a b c => 1 + szT a + szT b + szT c
  | .lett _ a b => 1 + szT a + szT b
  | .sett t _ b => 1 + szT t + szT b
def szTs : List Tm → Nat
  | [] => 0
  | t :: ts => szT t + szTs ts
end
def parts : Tm → List Tm
  | .new _ ts => ts
  | .eld _ ts => ts
  | .fld t _ => [t]
  | .cal t _ ts => t :: ts
  | .nt t => [t]
  | .two _ a b => [a, b]
  | .ite a b c => [a, b, c]
  | .lett _ a b => [a, b]
  | .sett t _ b => [t, b]
  | _ => []
mutual
/-- how high a term is -/
def hgt : Tm → Nat
  | .num _ => 1
  | .tru _ => 1
  | .nam _ => 1
  | .slf => 1
  | .new _ ts => 1 + hgts ts
  | .eld _ ts => 1 + hgts ts
  | .fld t _ => 1 + hgt t
  | .cal t _ ts => 1 + max (hgt t) (hgts ts)
  | .nt t => 1 + hgt t
  | .two _ a b => 1 + max (hgt a) (hgt b)
  | .ite a b c => 1 + max (hgt a) (max (hgt b) (hgt c))
  | .lett _ a b => 1 + max (hgt a) (hgt b)
  | .sett t _ b => 1 + max (hgt t) (hgt b)
def hgts : List Tm → Nat
  | [] => 0
  | t :: ts => max (hgt t) (hgts ts)
end
def tmCl : Tm → Nat
  | .num _ => n_NumberTerm
  | .tru _ => n_TruthTerm
  | .nam _ => n_NameTerm
  | .slf => n_SelfTerm
  | .new _ _ => n_NewTerm
  | .eld _ _ => n_ElderTerm
  | .fld _ _ => n_FieldTerm
  | .cal _ _ _ => n_CallTerm
  | .nt _ => n_NotTerm
  | .two _ _ _ => n_TwoTerm
  | .ite _ _ _ => n_IfTerm
  | .lett _ _ _ => n_LetTerm
  | .sett _ _ _ => n_SetTerm
def bas (il : Nat) (i j : Int) : List (Nat × PV) := [(n_inner, .ref il), (n_height, .int i), (n_many, .int j)]
/-- an object of class c with these parts and own fields -/
def Hd (n : Nat) (h : PH) (m e : Nat) (c p : Nat) (ps : List Nat) (own : List (Nat × PV)) : Prop := ∃ (il : Nat) (i : { x : Int // x = (e : Nat) }) (j : { x : Int // x = (m : Nat) }), n ≤ p ∧ n ≤ il ∧ h[p]? = some (.ins c (bas il i.1 j.1 ++ own)) ∧ h[il]? = some (.lst (ps.map .ref))
mutual
/-- the object at p is this term's -/
def TO (n : Nat) (h : PH) : Tm → Nat → Prop
  | .num i, p => Hd n h 1 (1 + hgts []) n_NumberTerm p [] [(n_number, .int i)]
  | .tru b, p => Hd n h 1 (1 + hgts []) n_TruthTerm p [] [(n_is_yes, .bl b)]
  | .nam s, p => Hd n h 1 (1 + hgts []) n_NameTerm p [] [(n_called, .str s)]
  | .slf, p => Hd n h 1 (1 + hgts []) n_SelfTerm p [] []
  | .new c ts, p => ∃ ps, Hd n h (1 + szTs ts) (1 + hgts ts) n_NewTerm p ps [(n_called, .str c)] ∧ TOs n h ts ps
  | .eld w ts, p => ∃ ps, Hd n h (1 + szTs ts) (1 + hgts ts) n_ElderTerm p ps [(n_called, .str w)] ∧ TOs n h ts ps
  | .fld t f, p => ∃ p1, Hd n h (1 + szT t) (1 + hgts [t]) n_FieldTerm p [p1] [(n_thing, .ref p1), (n_called, .str f)] ∧ TO n h t p1
  | .cal t w ts, p => ∃ p1 ps gl, Hd n h (1 + szT t + szTs ts) (1 + hgts (t :: ts)) n_CallTerm p (p1 :: ps) [(n_thing, .ref p1), (n_called, .str w), (n_given, .ref gl)] ∧ (n ≤ gl ∧ h[gl]? = some (.lst (ps.map .ref))) ∧ TO n h t p1 ∧ TOs n h ts ps
  | .nt t, p => ∃ p1, Hd n h (1 + szT t) (1 + hgts [t]) n_NotTerm p [p1] [(n_one, .ref p1)] ∧ TO n h t p1
  | .two s a b, p => ∃ p1 p2, Hd n h (1 + szT a + szT b) (1 + hgts [a, b]) n_TwoTerm p [p1, p2] [(n_sign, .str s), (n_one, .ref p1), (n_other, .ref p2)] ∧ TO n h a p1 ∧ TO n h b p2
  | .ite a b c, p => ∃ p1 p2 p3, Hd n h (1 + szT a + szT b + szT c) (1 + hgts [a, b, c]) n_IfTerm p [p1, p2, p3] [(n_one, .ref p1), (n_other, .ref p2), (n_third, .ref p3)] ∧ TO n h a p1 ∧ TO n h b p2 ∧ TO n h c p3
  | .lett x a b, p => ∃ p1 p2, Hd n h (1 + szT a + szT b) (1 + hgts [a, b]) n_LetTerm p [p1, p2] [(n_called, .str x), (n_one, .ref p1), (n_other, .ref p2)] ∧ TO n h a p1 ∧ TO n h b p2
  | .sett t f b, p => ∃ p1 p2, Hd n h (1 + szT t + szT b) (1 + hgts [t, b]) n_SetTerm p [p1, p2] [(n_thing, .ref p1), (n_called, .str f), (n_other, .ref p2)] ∧ TO n h t p1 ∧ TO n h b p2
def TOs (n : Nat) (h : PH) : List Tm → List Nat → Prop
  | [], ps => ps = []
  | t :: ts, ps => ∃ p r, ps = p :: r ∧ TO n h t p ∧ TOs n h ts r
end
/-- from n on, what stood stands, and the bound may fall -/
structure Fm (n m : Nat) (h h' : PH) : Prop where
  le : m ≤ n
  at_ : ∀ a o, n ≤ a → isFrl o = false → h[a]? = some o → h'[a]? = some o
theorem Hd.fm {n m z z2 : Nat} {h h' : PH} {c p : Nat} {ps : List Nat} {own : List (Nat × PV)} (g : Fm n m h h') (a : Hd n h z z2 c p ps own) : Hd m h' z z2 c p ps own := let ⟨il, i, j, n1, n2, a1, a2⟩ := a; ⟨il, i, j, Nat.le_trans g.le n1, Nat.le_trans g.le n2, g.at_ _ _ n1 rfl a1, g.at_ _ _ n2 rfl a2⟩
mutual
theorem TO.fm {n m : Nat} {h h' : PH} (g : Fm n m h h') : ∀ (t : Tm) (p : Nat), TO n h t p → TO m h' t p
  | .num _, p, a => Hd.fm g a
  | .tru _, p, a => Hd.fm g a
  | .nam _, p, a => Hd.fm g a
  | .slf, p, a => Hd.fm g a
  | .new c ts, p, a => let ⟨ps, b1, b2⟩ := a; ⟨ps, Hd.fm g b1, TOs.fm g ts ps b2⟩
  | .eld c ts, p, a => let ⟨ps, b1, b2⟩ := a; ⟨ps, Hd.fm g b1, TOs.fm g ts ps b2⟩
  | .fld t f, p, a => let ⟨p1, b1, b2⟩ := a; ⟨p1, Hd.fm g b1, TO.fm g t p1 b2⟩
  | .cal t w ts, p, a => let ⟨p1, ps, gl, b1, b2, b3, b4⟩ := a; ⟨p1, ps, gl, Hd.fm g b1, ⟨Nat.le_trans g.le b2.1, g.at_ _ _ b2.1 rfl b2.2⟩, TO.fm g t p1 b3, TOs.fm g ts ps b4⟩
  | .nt t, p, a => let ⟨p1, b1, b2⟩ := a; ⟨p1, Hd.fm g b1, TO.fm g t p1 b2⟩
  | .two s x y, p, a => let ⟨p1, p2, b1, b2, b3⟩ := a; ⟨p1, p2, Hd.fm g b1, TO.fm g x p1 b2, TO.fm g y p2 b3⟩
  | .ite x y z, p, a => let ⟨p1, p2, p3, b1, b2, b3, b4⟩ := a; ⟨p1, p2, p3, Hd.fm g b1, TO.fm g x p1 b2, TO.fm g y p2 b3, TO.fm g z p3 b4⟩
  | .lett s x y, p, a => let ⟨p1, p2, b1, b2, b3⟩ := a; ⟨p1, p2, Hd.fm g b1, TO.fm g x p1 b2, TO.fm g y p2 b3⟩
  | .sett x s y, p, a => let ⟨p1, p2, b1, b2, b3⟩ := a; ⟨p1, p2, Hd.fm g b1, TO.fm g x p1 b2, TO.fm g y p2 b3⟩
theorem TOs.fm {n m : Nat} {h h' : PH} (g : Fm n m h h') : ∀ (ts : List Tm) (ps : List Nat), TOs n h ts ps → TOs m h' ts ps
  | [], ps, a => a
  | t :: ts, ps, a => let ⟨p, r, b1, b2, b3⟩ := a; ⟨p, r, b1, TO.fm g t p b2, TOs.fm g ts r b3⟩
end
theorem Gr.fm {n m : Nat} {h h' : PH} (g : Gr h h') (l : m ≤ n) : Fm n m h h' := ⟨l, fun _ _ _ _ e => g.get e⟩
theorem TO.gr {n : Nat} {h h' : PH} {t : Tm} {p : Nat} (a : TO n h t p) (g : Gr h h') : TO n h' t p := TO.fm (g.fm (Nat.le_refl _)) t p a
theorem TOs.gr {n : Nat} {h h' : PH} {ts : List Tm} {ps : List Nat} (a : TOs n h ts ps) (g : Gr h h') : TOs n h' ts ps := TOs.fm (g.fm (Nat.le_refl _)) ts ps a
theorem TO.low {n m : Nat} {h : PH} {t : Tm} {p : Nat} (a : TO n h t p) (l : m ≤ n) : TO m h t p := TO.fm ⟨l, fun _ _ _ _ e => e⟩ t p a
theorem TOs.low {n m : Nat} {h : PH} {ts : List Tm} {ps : List Nat} (a : TOs n h ts ps) (l : m ≤ n) : TOs m h ts ps := TOs.fm ⟨l, fun _ _ _ _ e => e⟩ ts ps a
/-- one object below is put for -/
theorem Up.fm {n p : Nat} {h h' : PH} {o : PO} (u : Up h p o h') (l : p < n) : Fm n n h h' := ⟨Nat.le_refl _, fun a o na _ e => u.get (by omega) e⟩
/-- what all terms' objects have -/
theorem TO.hd {n : Nat} {h : PH} : ∀ {t : Tm} {p : Nat}, TO n h t p → ∃ ps own, Hd n h (szT t) (1 + hgts (parts t)) (tmCl t) p ps own ∧ TOs n h (parts t) ps
  | .num _, p, a => ⟨_, _, a, rfl⟩
  | .tru _, p, a => ⟨_, _, a, rfl⟩
  | .nam _, p, a => ⟨_, _, a, rfl⟩
  | .slf, p, a => ⟨_, _, a, rfl⟩
  | .new c ts, p, a => let ⟨ps, b1, b2⟩ := a; ⟨_, _, b1, b2⟩
  | .eld c ts, p, a => let ⟨ps, b1, b2⟩ := a; ⟨_, _, b1, b2⟩
  | .fld t f, p, a => let ⟨p1, b1, b2⟩ := a; ⟨_, _, b1, _, _, rfl, b2, rfl⟩
  | .cal t w ts, p, a => let ⟨p1, ps, gl, b1, b2, b3, b4⟩ := a; ⟨_, _, b1, _, _, rfl, b3, b4⟩
  | .nt t, p, a => let ⟨p1, b1, b2⟩ := a; ⟨_, _, b1, _, _, rfl, b2, rfl⟩
  | .two s x y, p, a => let ⟨p1, p2, b1, b2, b3⟩ := a; ⟨_, _, b1, _, _, rfl, b2, _, _, rfl, b3, rfl⟩
  | .ite x y z, p, a => let ⟨p1, p2, p3, b1, b2, b3, b4⟩ := a; ⟨_, _, b1, _, _, rfl, b2, _, _, rfl, b3, _, _, rfl, b4, rfl⟩
  | .lett s x y, p, a => let ⟨p1, p2, b1, b2, b3⟩ := a; ⟨_, _, b1, _, _, rfl, b2, _, _, rfl, b3, rfl⟩
  | .sett x s y, p, a => let ⟨p1, p2, b1, b2, b3⟩ := a; ⟨_, _, b1, _, _, rfl, b2, _, _, rfl, b3, rfl⟩
theorem TOs.all {n : Nat} {h : PH} : ∀ {ts : List Tm} {ps : List Nat}, TOs n h ts ps → ps.length = ts.length ∧ ∀ q ∈ ps, ∃ t, TO n h t q
  | [], ps, a => by cases (show ps = [] from a); exact ⟨rfl, nofun⟩
  | t :: ts, ps, a => by
    obtain ⟨p, r, rfl, b1, b2⟩ := a
    obtain ⟨l, m⟩ := TOs.all b2
    exact ⟨by simp [l], fun q hq => by
      rcases List.mem_cons.mp hq with rfl | hq
      · exact ⟨t, b1⟩
      · exact m q hq⟩
theorem fld_h (t : Tm) : fld sgT (tmCl t) n_height = true ∧ fld sgT (tmCl t) n_many = true ∧ fld sgT (tmCl t) n_inner = true := by cases t <;> exact ⟨rfl, rfl, rfl⟩
end Py

set_option Elab.async false
set_option linter.all false
set_option maxRecDepth 100000
set_option maxHeartbeats 4000000
/-! Terms made. -/
namespace Py
open PySem
theorem Gr.nw {h h1 h2 : PH} {o : PO} (g : Gr h h1) (u : Nw h1 o h2) : Gr h h2 := g.trans u.stays
theorem Gr.up {h h1 h2 : PH} {p : Nat} {o : PO} (g : Gr h h1) (u : Up h1 p o h2) (n : h.length ≤ p) : Gr h h2 := Stays.gr g (u.stays (D := [p]) (by simp)) (by simpa using n)
theorem Nw.gr {h h1 : PH} {o : PO} (u : Nw h o h1) : Gr h h1 := u.stays
theorem seq_stays {D : List Nat} {h h1 : PH} {v : PV} {xs : List PV} (s : Stays D h h1) (n : ∀ a, v = .ref a → a ∉ D) (e : seqOf h v = some xs) : seqOf h1 v = some xs := by
  cases v with
  | ref a => exact Stays.lst s (n a rfl) e
  | _ => exact e
theorem items_seq {h : PH} {v : PV} {xs : List PV} (e : seqOf h v = some xs) : itemsOf h v = some xs := by
  cases v with
  | str s => cases e
  | _ => exact e
theorem live_seq {h : PH} {v : PV} {xs : List PV} (e : seqOf h v = some xs) : liveL v xs h := by
  cases v with
  | ref a => exact e
  | _ => trivial
theorem max_of : ∀ ns : List Int, ∃ m, m ∈ ns ++ [0] ∧ ∀ y ∈ ns ++ [0], y ≤ m
  | [] => ⟨0, by simp, by simp⟩
  | x :: r => by
    obtain ⟨m, a, b⟩ := max_of r
    by_cases hx : x ≤ m
    · refine ⟨m, List.mem_cons_of_mem _ a, fun y hy => ?_⟩
      rcases List.mem_cons.mp hy with rfl | hy
      · exact hx
      · exact b y hy
    · refine ⟨x, List.mem_cons_self .., fun y hy => ?_⟩
      rcases List.mem_cons.mp hy with rfl | hy
      · exact Int.le_refl _
      · have := b y hy; omega
/-- alike, one by one -/
def All2 (R : Nat → Int → Prop) : List Nat → List Int → Prop
  | [], [] => True
  | x :: xs, y :: ys => R x y ∧ All2 R xs ys
  | _, _ => False
theorem All2.snoc {R : Nat → Int → Prop} {x : Nat} {y : Int} (r : R x y) : ∀ {xs : List Nat} {ys : List Int}, All2 R xs ys → All2 R (xs ++ [x]) (ys ++ [y])
  | [], [], _ => ⟨r, trivial⟩
  | [], _ :: _, a => a.elim
  | _ :: _, [], a => a.elim
  | _ :: _, _ :: _, a => ⟨a.1, All2.snoc r a.2⟩
theorem All2.imp {R S : Nat → Int → Prop} (f : ∀ x y, R x y → S x y) : ∀ {xs : List Nat} {ys : List Int}, All2 R xs ys → All2 S xs ys
  | [], [], _ => trivial
  | [], _ :: _, a => a.elim
  | _ :: _, [], a => a.elim
  | _ :: _, _ :: _, a => ⟨f _ _ a.1, All2.imp f a.2⟩
/-- what an object tells of how many -/
def HF (h : PH) (q : Nat) (m : Int) : Prop := ∃ c il j own, h[q]? = some (.ins c (bas il m j ++ own))
def MF (h : PH) (q : Nat) (m : Int) : Prop := ∃ c il i own, h[q]? = some (.ins c (bas il i m ++ own))
theorem ht_parts : ∀ t : Tm, hgt t = 1 + hgts (parts t)
  | .num _ => rfl
  | .tru _ => rfl
  | .nam _ => rfl
  | .slf => rfl
  | .new _ _ => rfl
  | .eld _ _ => rfl
  | .fld t _ => by show 1 + hgt t = 1 + max (hgt t) 0; omega
  | .cal _ _ _ => rfl
  | .nt t => by show 1 + hgt t = 1 + max (hgt t) 0; omega
  | .two _ a b => by show 1 + max (hgt a) (hgt b) = 1 + max (hgt a) (max (hgt b) 0); omega
  | .ite a b c => by show 1 + max (hgt a) (max (hgt b) (hgt c)) = 1 + max (hgt a) (max (hgt b) (max (hgt c) 0)); omega
  | .lett _ a b => by show 1 + max (hgt a) (hgt b) = 1 + max (hgt a) (max (hgt b) 0); omega
  | .sett a _ b => by show 1 + max (hgt a) (hgt b) = 1 + max (hgt a) (max (hgt b) 0); omega
theorem HF.eq {h : PH} {n q : Nat} {t : Tm} {m : Int} (a : HF h q m) (to : TO n h t q) : m = (hgt t : Nat) := by
  obtain ⟨c, il, i, own, e⟩ := a
  obtain ⟨_, _, ⟨il', ⟨i', rfl⟩, j, _, _, b1, _⟩, _⟩ := to.hd
  rw [e] at b1
  have z := Option.some.inj b1
  injection z with z1 z2
  unfold bas at z2
  simp only [List.cons_append, List.nil_append, List.cons.injEq, Prod.mk.injEq, PV.int.injEq, true_and] at z2
  rw [ht_parts]
  exact z2.2.1
theorem hts_of {h : PH} {n : Nat} : ∀ {ts : List Tm} {ps : List Nat} {ns : List Int}, TOs n h ts ps → All2 (HF h) ps ns → (∀ x ∈ ns, x ≤ ((hgts ts : Nat) : Int)) ∧ (hgts ts = 0 ∨ ((hgts ts : Nat) : Int) ∈ ns)
  | [], ps, ns, a, b => by
    cases (show ps = [] from a)
    cases ns with
    | nil => exact ⟨fun x m => (by cases m), .inl rfl⟩
    | cons => exact b.elim
  | t :: ts, ps, ns, a, b => by
    obtain ⟨p, r, rfl, a1, a2⟩ := a
    cases ns with
    | nil => exact b.elim
    | cons m ns =>
      have h1 := b.1.eq a1
      obtain ⟨h2, h3⟩ := hts_of a2 b.2
      have e : hgts (t :: ts) = max (hgt t) (hgts ts) := rfl
      refine ⟨fun x mx => ?_, ?_⟩
      · rcases List.mem_cons.mp mx with rfl | mx
        · omega
        · have := h2 x mx; omega
      · by_cases z : hgts ts ≤ hgt t
        · refine .inr ?_
          rw [e, Nat.max_eq_left z, ← h1]
          exact List.mem_cons_self ..
        · rw [e, Nat.max_eq_right (by omega)]
          rcases h3 with h3 | h3
          · exact .inl h3
          · exact .inr (List.mem_cons_of_mem _ h3)
theorem max_hts {h : PH} {n : Nat} {ts : List Tm} {ps : List Nat} {ns : List Int} {m : Int} (a : TOs n h ts ps) (b : All2 (HF h) ps ns) (h1 : m ∈ ns ++ [0]) (h2 : ∀ y ∈ ns ++ [0], y ≤ m) : m = (hgts ts : Nat) := by
  obtain ⟨c, d⟩ := hts_of a b
  have up : m ≤ (hgts ts : Nat) := by
    rcases List.mem_append.mp h1 with h1 | h1
    · exact c m h1
    · cases List.mem_singleton.mp h1; omega
  have lo : ((hgts ts : Nat) : Int) ≤ m := by
    rcases d with d | d
    · rw [d]; exact h2 0 (by simp)
    · exact h2 _ (List.mem_append_left _ d)
  omega
theorem MF.eq {h : PH} {n q : Nat} {t : Tm} {m : Int} (a : MF h q m) (to : TO n h t q) : m = (szT t : Nat) := by
  obtain ⟨c, il, i, own, e⟩ := a
  obtain ⟨_, _, ⟨il', i', ⟨j, rfl⟩, _, _, b1, _⟩, _⟩ := to.hd
  rw [e] at b1
  have z := Option.some.inj b1
  injection z with z1 z2
  unfold bas at z2
  simp only [List.cons_append, List.nil_append, List.cons.injEq, Prod.mk.injEq, PV.int.injEq, true_and] at z2
  exact z2.2.2.1
theorem sum_of {h : PH} {n : Nat} : ∀ {ts : List Tm} {ps : List Nat} {ns : List Int}, TOs n h ts ps → All2 (MF h) ps ns → ns.sum = (szTs ts : Nat)
  | [], ps, ns, a, b => by
    cases (show ps = [] from a)
    cases ns with
    | nil => rfl
    | cons => exact b.elim
  | t :: ts, ps, ns, a, b => by
    obtain ⟨p, r, rfl, a1, a2⟩ := a
    cases ns with
    | nil => exact b.elim
    | cons m ns =>
      have h1 := b.1.eq a1
      have h2 := sum_of a2 b.2
      rw [List.sum_cons, h1, h2]
      simp [szTs]
theorem TOs.one {n : Nat} {h : PH} {t : Tm} {p : Nat} (a : TO n h t p) : TOs n h [t] [p] := ⟨p, [], rfl, a, rfl⟩
theorem TOs.more {n : Nat} {h : PH} {t : Tm} {p : Nat} {ts : List Tm} {ps : List Nat} (a : TO n h t p) (b : TOs n h ts ps) : TOs n h (t :: ts) (p :: ps) := ⟨p, ps, rfl, a, b⟩
section
variable {k : Nat} {h : PH} {Q : KQ} {X : KX}
/-- a whole number's field of each part -/
theorem s_col {f : Nat} {l : Loc} {v : PV} {ps : List Nat} {R : Nat → Int → Prop} (hl : l[1]? = some (some v)) (hi : 2 < l.length) (hs : seqOf h v = some (ps.map .ref)) (hm : ∀ q ∈ ps, ∃ c fs m, h[q]? = some (.ins c fs) ∧ fld sgT c f = true ∧ getN f fs = some (.int m) ∧ R q m) (hz : ps.length ≤ 1000)
    (q : ∀ (ns : List Int) h', Gr h h' → h'[h.length]? = some (.lst (ns.map .int)) → ns.length = ps.length → All2 R ps ns → Q (.ref h.length) h') :
    evE sgT (callS sgT k) X (.lc (.attr (.var 2) f) (.nm 2) (.seq (.var 1)) .no) l h Q := by
  refine xLc hi (iSeq (xV hl ⟨items_seq hs, fun h2 N => ?_⟩))
  refine comp_inv (fun i acc h' => Gr h h' ∧ ∃ ns : List Int, acc = ns.map .int ∧ ns.length = i ∧ All2 R (ps.take i) ns) (fun i acc h' iv => ?_) _ 0 [] h2 ⟨N.gr, [], rfl, rfl, trivial⟩ N.at_ (by show 0 + _ ≤ 16777216; rw [List.length_map]; omega) (fun i x acc h' K ex iv ea c1 _ => ?_) fun acc h' iv ea => ?_
  · exact live_seq (seq_stays iv.1 (by simp) hs)
  · obtain ⟨g, ns, rfl, ln, hR⟩ := iv
    rw [List.getElem?_map] at ex
    cases ep : ps[i]? with
    | none => rw [ep] at ex; cases ex
    | some p =>
      rw [ep] at ex
      cases (show PV.ref p = x from Option.some.inj ex)
      obtain ⟨c, fs, m, e1, e2, e3, e4⟩ := hm p (List.mem_of_getElem? ep)
      refine xAt (xV (v := .ref p) (by rw [List.getElem?_set_self (by simpa using hi)]) ⟨p, c, fs, .int m, rfl, g.get e1, e2, e3, ?_⟩)
      refine c1 _ _ ea fun h3 u => ⟨g.up u (Nat.le_refl _), ns ++ [m], by simp, by simp [ln], ?_⟩
      rw [show ps.take (0 + i + 1) = ps.take (0 + i) ++ [p] by rw [Nat.zero_add, List.take_succ, ep]; rfl]
      exact hR.snoc e4
  · obtain ⟨g, ns, rfl, ln, hR⟩ := iv
    rw [List.length_map, Nat.zero_add, List.take_length] at hR
    exact q ns h' g ea (by simpa using ln) hR
theorem s_init {p c : Nat} {v : PV} {ps : List Nat} (e : h[p]? = some (.ins c [])) (f1 : fld sgT c n_inner = true) (f2 : fld sgT c n_height = true) (f3 : fld sgT c n_many = true) (hs : seqOf h v = some (ps.map .ref)) {n : Nat} {ts : List Tm} (hts : TOs n h ts ps) (hz : ps.length ≤ 1000)
    (q : ∀ h' il i j, Stays [p] h h' → h.length ≤ il → h'[p]? = some (.ins c (bas il i j)) → i = ((1 + hgts ts : Nat) : Int) → j = ((1 + szTs ts : Nat) : Int) → h'[il]? = some (.lst (ps.map .ref)) → Q .non h') : callS sgT (k + 1) (.fn n_Term___init__) [.ref p, v] h Q X := by
  have hm : ∀ q ∈ ps, ∃ n t, TO n h t q := fun q hq => let ⟨t, to⟩ := hts.all.2 q hq; ⟨n, t, to⟩
  have nv : ∀ a, v = .ref a → a ∉ [p] := fun a ea m => by
    subst ea
    cases (List.mem_singleton.mp m)
    have z : lstOf h (.ref p) = some (ps.map .ref) := hs
    unfold lstOf at z
    dsimp only at z
    rw [e] at z; cases z
  have nq : ∀ q ∈ ps, q ≠ p := fun q hq z => by
    obtain ⟨_, t, to⟩ := hm q hq
    obtain ⟨_, _, ⟨il, i, j, _, _, b1, _⟩, _⟩ := to.hd
    rw [z, e] at b1
    cases b1
  have fl : ∀ (h' : PH), Stays [p] h h' → ∀ f, (f = n_height ∨ f = n_many) → ∀ q ∈ ps, ∃ c fs m, h'[q]? = some (.ins c fs) ∧ fld sgT c f = true ∧ getN f fs = some (.int m) ∧ ((f = n_many → MF h q m) ∧ (f = n_height → HF h q m)) := fun h' s f hf q hq => by
    obtain ⟨_, t, to⟩ := hm q hq
    obtain ⟨_, own, ⟨il, i, j, _, _, b1, _⟩, _⟩ := to.hd
    have b2 := s.at_ q _ (by simpa using nq q hq) b1
    rcases hf with rfl | rfl
    · exact ⟨_, _, i.1, b2, (fld_h t).1, rfl, fun z => (by cases z), fun _ => ⟨_, _, _, _, b1⟩⟩
    · exact ⟨_, _, j.1, b2, (fld_h t).2.1, rfl, fun _ => ⟨_, _, _, _, b1⟩, fun z => (by cases z)⟩
  refine xFn (d := d_Term___init__) rfl rfl ?_
  refine sF (i := 0) (p := p) rfl (xBf (a1 (xV (i := 1) rfl ?_)))
  show bfV .list1 [v] h _
  have hb : ∀ R : KQ, R (.ref h.length) (h ++ [.lst (ps.map .ref)]) → bfV .list1 [v] h R := fun R r => by
    cases v <;> first | exact ⟨_, hs, r⟩ | cases hs
  refine hb _ ⟨c, [], get_app e, f1, by simp, fun h2 u => ?_⟩
  have N := Nw.of (h := h) (o := .lst (ps.map .ref))
  have ep := lt_of e
  have s2 : Stays [p] h h2 := (N.stays).trans (u.stays (by simp))
  have el : h2[h.length]? = some (.lst (ps.map .ref)) := u.get (by omega) N.at_
  refine sF (i := 0) (p := p) rfl (xBin (xI (xBf (a1 (xBin (s_col rfl (by show 2 < 3; decide) (seq_stays s2 nv hs) (fl h2 s2 _ (.inl rfl)) hz fun ns h3 g3 e3 ln aH => ?_))))))
  refine xLst (a1 (xI ⟨by decide, fun h4 N4 => ?_⟩))
  refine ⟨_, _, N4.get e3, N4.at_, by show _ + 1 ≤ 16777216; rw [List.length_map]; omega, ?_⟩
  obtain ⟨m, hm1, hm2⟩ := max_of ns
  refine ⟨ns ++ [0], m, ?_, hm1, hm2, ?_⟩
  · rw [List.map_append]; exact lstOf_new
  have N5 := Nw.of (h := h4) (o := .lst (ns.map .int ++ [.int 0]))
  have g5 : Gr h2 (h4 ++ [.lst (ns.map .int ++ [.int 0])]) := (g3.nw N4).nw N5
  have e5 := g5.get u.at_
  refine ⟨c, _, e5, f2, by simp [putN], fun h6 u6 => ?_⟩
  have s6 : Stays [p] h h6 := s2.trans (g5.stays.trans (u6.stays (by simp)))
  have el6 : h6[h.length]? = some (.lst (ps.map .ref)) := u6.get (by omega) (g5.get el)
  refine sF (i := 0) (p := p) rfl (xBin (xI (xBf (a1 (s_col rfl (by show 2 < 3; decide) (seq_stays s6 nv hs) (fl h6 s6 _ (.inr rfl)) hz fun ns2 h7 g7 e7 ln7 a7 => ?_)))))
  refine ⟨ns2, lst_got e7, ?_⟩
  refine ⟨c, _, g7.get u6.at_, f3, by simp [putN], fun h8 u8 => sEnd ?_⟩
  exact q h8 h.length _ _ (s6.trans (g7.stays.trans (u8.stays (by simp)))) (Nat.le_refl _) u8.at_ (by
    rw [max_hts hts (All2.imp (fun q m z => z.2 rfl) aH) hm1 hm2]
    omega) (by
    rw [sum_of hts (All2.imp (fun q m z => z.1 rfl) a7)]
    omega) (u8.get (by omega) (g7.get el6))
end
end Py

set_option Elab.async false
set_option linter.all false
set_option maxRecDepth 100000
set_option maxHeartbeats 4000000
/-! Each form of term, made (printed by mkterms.py). -/
namespace Py
open PySem
section
variable {k n : Nat} {h : PH} {Q : KQ} {X : KX}
theorem s_mk_NumberTerm {i : Int} (hn : n ≤ h.length) (q : ∀ h' p, Gr h h' → TO n h' (.num i) p → Q (.ref p) h') : callS sgT (k + 3) (.mk n_NumberTerm) [.int i] h Q X := by
  refine xNew rfl fun h1 N => ?_
  refine xFn (d := d_NumberTerm___init__) rfl rfl ?_
  refine sE_ (xIni rfl (aC (xV (i := 0) rfl (a1 (xLst (aN ⟨by show _ ≤ 16777216; simp, fun h2 N2 => ?_⟩))))))
  refine s_init (ps := []) (N2.get N.at_) rfl rfl rfl (lst_got N2.at_) (n := n) (ts := []) rfl (by simp) fun h3 il i' j' S3 ni e3 hi hj l3 => ?_
  have g3 : Gr h h3 := Stays.gr (N.gr.trans N2.gr) S3 (by simp)
  have il_ : h.length ≤ il := by have := N.len; have := N2.len; omega
  have nl : il ≠ h.length := fun z => by rw [z, e3] at l3; cases l3
  refine sF (i := 0) (p := h.length) rfl (xV (i := 1) rfl ⟨_, _, e3, rfl, by show (3 : Nat) < 900; omega, fun h4 u4 => ?_⟩)
  have g4 : Gr h h4 := g3.up u4 (Nat.le_refl _)
  have l4 := u4.get nl l3
  have e4 := u4.at_
  refine sEnd ⟨rfl, ?_⟩
  exact q h4 h.length g4 ⟨il, ⟨i', hi⟩, ⟨j', by rw [hj]; simp only [szTs]⟩, hn, Nat.le_trans hn il_, e4, l4⟩
theorem s_mk_TruthTerm {b : Bool} (hn : n ≤ h.length) (q : ∀ h' p, Gr h h' → TO n h' (.tru b) p → Q (.ref p) h') : callS sgT (k + 3) (.mk n_TruthTerm) [.bl b] h Q X := by
  refine xNew rfl fun h1 N => ?_
  refine xFn (d := d_TruthTerm___init__) rfl rfl ?_
  refine sE_ (xIni rfl (aC (xV (i := 0) rfl (a1 (xLst (aN ⟨by show _ ≤ 16777216; simp, fun h2 N2 => ?_⟩))))))
  refine s_init (ps := []) (N2.get N.at_) rfl rfl rfl (lst_got N2.at_) (n := n) (ts := []) rfl (by simp) fun h3 il i' j' S3 ni e3 hi hj l3 => ?_
  have g3 : Gr h h3 := Stays.gr (N.gr.trans N2.gr) S3 (by simp)
  have il_ : h.length ≤ il := by have := N.len; have := N2.len; omega
  have nl : il ≠ h.length := fun z => by rw [z, e3] at l3; cases l3
  refine sF (i := 0) (p := h.length) rfl (xV (i := 1) rfl ⟨_, _, e3, rfl, by show (3 : Nat) < 900; omega, fun h4 u4 => ?_⟩)
  have g4 : Gr h h4 := g3.up u4 (Nat.le_refl _)
  have l4 := u4.get nl l3
  have e4 := u4.at_
  refine sEnd ⟨rfl, ?_⟩
  exact q h4 h.length g4 ⟨il, ⟨i', hi⟩, ⟨j', by rw [hj]; simp only [szTs]⟩, hn, Nat.le_trans hn il_, e4, l4⟩
theorem s_mk_NameTerm {s : Str} (hn : n ≤ h.length) (q : ∀ h' p, Gr h h' → TO n h' (.nam s) p → Q (.ref p) h') : callS sgT (k + 3) (.mk n_NameTerm) [.str s] h Q X := by
  refine xNew rfl fun h1 N => ?_
  refine xFn (d := d_NameTerm___init__) rfl rfl ?_
  refine sE_ (xIni rfl (aC (xV (i := 0) rfl (a1 (xLst (aN ⟨by show _ ≤ 16777216; simp, fun h2 N2 => ?_⟩))))))
  refine s_init (ps := []) (N2.get N.at_) rfl rfl rfl (lst_got N2.at_) (n := n) (ts := []) rfl (by simp) fun h3 il i' j' S3 ni e3 hi hj l3 => ?_
  have g3 : Gr h h3 := Stays.gr (N.gr.trans N2.gr) S3 (by simp)
  have il_ : h.length ≤ il := by have := N.len; have := N2.len; omega
  have nl : il ≠ h.length := fun z => by rw [z, e3] at l3; cases l3
  refine sF (i := 0) (p := h.length) rfl (xV (i := 1) rfl ⟨_, _, e3, rfl, by show (3 : Nat) < 900; omega, fun h4 u4 => ?_⟩)
  have g4 : Gr h h4 := g3.up u4 (Nat.le_refl _)
  have l4 := u4.get nl l3
  have e4 := u4.at_
  refine sEnd ⟨rfl, ?_⟩
  exact q h4 h.length g4 ⟨il, ⟨i', hi⟩, ⟨j', by rw [hj]; simp only [szTs]⟩, hn, Nat.le_trans hn il_, e4, l4⟩
theorem s_mk_SelfTerm  (hn : n ≤ h.length) (q : ∀ h' p, Gr h h' → TO n h' (.slf) p → Q (.ref p) h') : callS sgT (k + 3) (.mk n_SelfTerm) [] h Q X := by
  refine xNew rfl fun h1 N => ?_
  refine xFn (d := d_SelfTerm___init__) rfl rfl ?_
  refine sE_ (xIni rfl (aC (xV (i := 0) rfl (a1 (xLst (aN ⟨by show _ ≤ 16777216; simp, fun h2 N2 => ?_⟩))))))
  refine s_init (ps := []) (N2.get N.at_) rfl rfl rfl (lst_got N2.at_) (n := n) (ts := []) rfl (by simp) fun h3 il i' j' S3 ni e3 hi hj l3 => ?_
  have g3 : Gr h h3 := Stays.gr (N.gr.trans N2.gr) S3 (by simp)
  have il_ : h.length ≤ il := by have := N.len; have := N2.len; omega
  have nl : il ≠ h.length := fun z => by rw [z, e3] at l3; cases l3
  refine sEnd ⟨rfl, ?_⟩
  exact q h3 h.length g3 ⟨il, ⟨i', hi⟩, ⟨j', by rw [hj]; simp only [szTs]⟩, hn, Nat.le_trans hn il_, e3, l3⟩
theorem s_mk_NewTerm {c : Str} {ts : List Tm} {ps : List Nat} {a : Nat} (ha : h[a]? = some (.lst (ps.map .ref))) (ht : TOs n h ts ps) (hz : ts.length ≤ 900) (hn : n ≤ h.length) (q : ∀ h' p, Gr h h' → TO n h' (.new c ts) p → Q (.ref p) h') : callS sgT (k + 3) (.mk n_NewTerm) [.str c, .ref a] h Q X := by
  refine xNew rfl fun h1 N => ?_
  refine xFn (d := d_NewTerm___init__) rfl rfl ?_
  have N2 : Gr h h1 := N.gr
  obtain ⟨tl, tm⟩ := TOs.all ht
  refine sE_ (xIni rfl (aC (xV (i := 0) rfl (a1 (xV (i := 2) rfl ?_)))))
  refine s_init (ps := ps) N.at_ rfl rfl rfl (lst_got (N.get ha)) (ht.gr N2) (by omega) fun h3 il i' j' S3 ni e3 hi hj l3 => ?_
  have g3 : Gr h h3 := Stays.gr N.gr S3 (by simp)
  have il_ : h.length ≤ il := by have := N.len; omega
  have nl : il ≠ h.length := fun z => by rw [z, e3] at l3; cases l3
  refine sF (i := 0) (p := h.length) rfl (xV (i := 1) rfl ⟨_, _, e3, rfl, by show (3 : Nat) < 900; omega, fun h4 u4 => ?_⟩)
  have g4 : Gr h h4 := g3.up u4 (Nat.le_refl _)
  have l4 := u4.get nl l3
  have e4 := u4.at_
  refine sEnd ⟨rfl, ?_⟩
  exact q h4 h.length g4 ⟨ps, ⟨il, ⟨i', hi⟩, ⟨j', by rw [hj]⟩, hn, Nat.le_trans hn il_, e4, l4⟩, ht.gr g4⟩
theorem s_mk_ElderTerm {w : Str} {ts : List Tm} {ps : List Nat} {a : Nat} (ha : h[a]? = some (.lst (ps.map .ref))) (ht : TOs n h ts ps) (hz : ts.length ≤ 900) (hn : n ≤ h.length) (q : ∀ h' p, Gr h h' → TO n h' (.eld w ts) p → Q (.ref p) h') : callS sgT (k + 3) (.mk n_ElderTerm) [.str w, .ref a] h Q X := by
  refine xNew rfl fun h1 N => ?_
  refine xFn (d := d_ElderTerm___init__) rfl rfl ?_
  have N2 : Gr h h1 := N.gr
  obtain ⟨tl, tm⟩ := TOs.all ht
  refine sE_ (xIni rfl (aC (xV (i := 0) rfl (a1 (xV (i := 2) rfl ?_)))))
  refine s_init (ps := ps) N.at_ rfl rfl rfl (lst_got (N.get ha)) (ht.gr N2) (by omega) fun h3 il i' j' S3 ni e3 hi hj l3 => ?_
  have g3 : Gr h h3 := Stays.gr N.gr S3 (by simp)
  have il_ : h.length ≤ il := by have := N.len; omega
  have nl : il ≠ h.length := fun z => by rw [z, e3] at l3; cases l3
  refine sF (i := 0) (p := h.length) rfl (xV (i := 1) rfl ⟨_, _, e3, rfl, by show (3 : Nat) < 900; omega, fun h4 u4 => ?_⟩)
  have g4 : Gr h h4 := g3.up u4 (Nat.le_refl _)
  have l4 := u4.get nl l3
  have e4 := u4.at_
  refine sEnd ⟨rfl, ?_⟩
  exact q h4 h.length g4 ⟨ps, ⟨il, ⟨i', hi⟩, ⟨j', by rw [hj]⟩, hn, Nat.le_trans hn il_, e4, l4⟩, ht.gr g4⟩
theorem s_mk_FieldTerm {t : Tm} {p1 : Nat} {f : Str} (t1 : TO n h t p1) (hn : n ≤ h.length) (q : ∀ h' p, Gr h h' → TO n h' (.fld t f) p → Q (.ref p) h') : callS sgT (k + 3) (.mk n_FieldTerm) [.ref p1, .str f] h Q X := by
  refine xNew rfl fun h1 N => ?_
  refine xFn (d := d_FieldTerm___init__) rfl rfl ?_
  refine sE_ (xIni rfl (aC (xV (i := 0) rfl (a1 (xLst (aC (xV (i := 1) rfl (aN ⟨by show _ ≤ 16777216; simp, fun h2 N2 => ?_⟩))))))))
  refine s_init (ps := [p1]) (N2.get N.at_) rfl rfl rfl (lst_got N2.at_) (ts := [t]) (TOs.one (t1.gr (N.gr.trans N2.gr))) (by simp) fun h3 il i' j' S3 ni e3 hi hj l3 => ?_
  have g3 : Gr h h3 := Stays.gr (N.gr.trans N2.gr) S3 (by simp)
  have il_ : h.length ≤ il := by have := N.len; have := N2.len; omega
  have nl : il ≠ h.length := fun z => by rw [z, e3] at l3; cases l3
  refine sF (i := 0) (p := h.length) rfl (xV (i := 1) rfl ⟨_, _, e3, rfl, by show (3 : Nat) < 900; omega, fun h4 u4 => ?_⟩)
  have g4 : Gr h h4 := g3.up u4 (Nat.le_refl _)
  have l4 := u4.get nl l3
  have e4 := u4.at_
  refine sF (i := 0) (p := h.length) rfl (xV (i := 2) rfl ⟨_, _, e4, rfl, by show (4 : Nat) < 900; omega, fun h5 u5 => ?_⟩)
  have g5 : Gr h h5 := g4.up u5 (Nat.le_refl _)
  have l5 := u5.get nl l4
  have e5 := u5.at_
  refine sEnd ⟨rfl, ?_⟩
  exact q h5 h.length g5 ⟨p1, ⟨il, ⟨i', hi⟩, ⟨j', by rw [hj]; simp only [szTs]; omega⟩, hn, Nat.le_trans hn il_, e5, l5⟩, t1.gr g5⟩
theorem s_mk_NotTerm {t : Tm} {p1 : Nat} (t1 : TO n h t p1) (hn : n ≤ h.length) (q : ∀ h' p, Gr h h' → TO n h' (.nt t) p → Q (.ref p) h') : callS sgT (k + 3) (.mk n_NotTerm) [.ref p1] h Q X := by
  refine xNew rfl fun h1 N => ?_
  refine xFn (d := d_NotTerm___init__) rfl rfl ?_
  refine sE_ (xIni rfl (aC (xV (i := 0) rfl (a1 (xLst (aC (xV (i := 1) rfl (aN ⟨by show _ ≤ 16777216; simp, fun h2 N2 => ?_⟩))))))))
  refine s_init (ps := [p1]) (N2.get N.at_) rfl rfl rfl (lst_got N2.at_) (ts := [t]) (TOs.one (t1.gr (N.gr.trans N2.gr))) (by simp) fun h3 il i' j' S3 ni e3 hi hj l3 => ?_
  have g3 : Gr h h3 := Stays.gr (N.gr.trans N2.gr) S3 (by simp)
  have il_ : h.length ≤ il := by have := N.len; have := N2.len; omega
  have nl : il ≠ h.length := fun z => by rw [z, e3] at l3; cases l3
  refine sF (i := 0) (p := h.length) rfl (xV (i := 1) rfl ⟨_, _, e3, rfl, by show (3 : Nat) < 900; omega, fun h4 u4 => ?_⟩)
  have g4 : Gr h h4 := g3.up u4 (Nat.le_refl _)
  have l4 := u4.get nl l3
  have e4 := u4.at_
  refine sEnd ⟨rfl, ?_⟩
  exact q h4 h.length g4 ⟨p1, ⟨il, ⟨i', hi⟩, ⟨j', by rw [hj]; simp only [szTs]; omega⟩, hn, Nat.le_trans hn il_, e4, l4⟩, t1.gr g4⟩
theorem s_mk_TwoTerm {s : Str} {t t2 : Tm} {p1 p2 : Nat} (t1 : TO n h t p1) (t2_ : TO n h t2 p2) (hn : n ≤ h.length) (q : ∀ h' p, Gr h h' → TO n h' (.two s t t2) p → Q (.ref p) h') : callS sgT (k + 3) (.mk n_TwoTerm) [.str s, .ref p1, .ref p2] h Q X := by
  refine xNew rfl fun h1 N => ?_
  refine xFn (d := d_TwoTerm___init__) rfl rfl ?_
  refine sE_ (xIni rfl (aC (xV (i := 0) rfl (a1 (xLst (aC (xV (i := 2) rfl (aC (xV (i := 3) rfl (aN ⟨by show _ ≤ 16777216; simp, fun h2 N2 => ?_⟩))))))))))
  refine s_init (ps := [p1, p2]) (N2.get N.at_) rfl rfl rfl (lst_got N2.at_) (ts := [t, t2]) (TOs.more (t1.gr (N.gr.trans N2.gr)) (TOs.one (t2_.gr (N.gr.trans N2.gr)))) (by simp) fun h3 il i' j' S3 ni e3 hi hj l3 => ?_
  have g3 : Gr h h3 := Stays.gr (N.gr.trans N2.gr) S3 (by simp)
  have il_ : h.length ≤ il := by have := N.len; have := N2.len; omega
  have nl : il ≠ h.length := fun z => by rw [z, e3] at l3; cases l3
  refine sF (i := 0) (p := h.length) rfl (xV (i := 1) rfl ⟨_, _, e3, rfl, by show (3 : Nat) < 900; omega, fun h4 u4 => ?_⟩)
  have g4 : Gr h h4 := g3.up u4 (Nat.le_refl _)
  have l4 := u4.get nl l3
  have e4 := u4.at_
  refine sF (i := 0) (p := h.length) rfl (xV (i := 2) rfl ⟨_, _, e4, rfl, by show (4 : Nat) < 900; omega, fun h5 u5 => ?_⟩)
  have g5 : Gr h h5 := g4.up u5 (Nat.le_refl _)
  have l5 := u5.get nl l4
  have e5 := u5.at_
  refine sF (i := 0) (p := h.length) rfl (xV (i := 3) rfl ⟨_, _, e5, rfl, by show (5 : Nat) < 900; omega, fun h6 u6 => ?_⟩)
  have g6 : Gr h h6 := g5.up u6 (Nat.le_refl _)
  have l6 := u6.get nl l5
  have e6 := u6.at_
  refine sEnd ⟨rfl, ?_⟩
  exact q h6 h.length g6 ⟨p1, p2, ⟨il, ⟨i', hi⟩, ⟨j', by rw [hj]; simp only [szTs]; omega⟩, hn, Nat.le_trans hn il_, e6, l6⟩, t1.gr g6, t2_.gr g6⟩
theorem s_mk_IfTerm {t t2 t3 : Tm} {p1 p2 p3 : Nat} (t1 : TO n h t p1) (t2_ : TO n h t2 p2) (t3_ : TO n h t3 p3) (hn : n ≤ h.length) (q : ∀ h' p, Gr h h' → TO n h' (.ite t t2 t3) p → Q (.ref p) h') : callS sgT (k + 3) (.mk n_IfTerm) [.ref p1, .ref p2, .ref p3] h Q X := by
  refine xNew rfl fun h1 N => ?_
  refine xFn (d := d_IfTerm___init__) rfl rfl ?_
  refine sE_ (xIni rfl (aC (xV (i := 0) rfl (a1 (xLst (aC (xV (i := 1) rfl (aC (xV (i := 2) rfl (aC (xV (i := 3) rfl (aN ⟨by show _ ≤ 16777216; simp, fun h2 N2 => ?_⟩))))))))))))
  refine s_init (ps := [p1, p2, p3]) (N2.get N.at_) rfl rfl rfl (lst_got N2.at_) (ts := [t, t2, t3]) (TOs.more (t1.gr (N.gr.trans N2.gr)) (TOs.more (t2_.gr (N.gr.trans N2.gr)) (TOs.one (t3_.gr (N.gr.trans N2.gr))))) (by simp) fun h3 il i' j' S3 ni e3 hi hj l3 => ?_
  have g3 : Gr h h3 := Stays.gr (N.gr.trans N2.gr) S3 (by simp)
  have il_ : h.length ≤ il := by have := N.len; have := N2.len; omega
  have nl : il ≠ h.length := fun z => by rw [z, e3] at l3; cases l3
  refine sF (i := 0) (p := h.length) rfl (xV (i := 1) rfl ⟨_, _, e3, rfl, by show (3 : Nat) < 900; omega, fun h4 u4 => ?_⟩)
  have g4 : Gr h h4 := g3.up u4 (Nat.le_refl _)
  have l4 := u4.get nl l3
  have e4 := u4.at_
  refine sF (i := 0) (p := h.length) rfl (xV (i := 2) rfl ⟨_, _, e4, rfl, by show (4 : Nat) < 900; omega, fun h5 u5 => ?_⟩)
  have g5 : Gr h h5 := g4.up u5 (Nat.le_refl _)
  have l5 := u5.get nl l4
  have e5 := u5.at_
  refine sF (i := 0) (p := h.length) rfl (xV (i := 3) rfl ⟨_, _, e5, rfl, by show (5 : Nat) < 900; omega, fun h6 u6 => ?_⟩)
  have g6 : Gr h h6 := g5.up u6 (Nat.le_refl _)
  have l6 := u6.get nl l5
  have e6 := u6.at_
  refine sEnd ⟨rfl, ?_⟩
  exact q h6 h.length g6 ⟨p1, p2, p3, ⟨il, ⟨i', hi⟩, ⟨j', by rw [hj]; simp only [szTs]; omega⟩, hn, Nat.le_trans hn il_, e6, l6⟩, t1.gr g6, t2_.gr g6, t3_.gr g6⟩
theorem s_mk_LetTerm {s : Str} {t t2 : Tm} {p1 p2 : Nat} (t1 : TO n h t p1) (t2_ : TO n h t2 p2) (hn : n ≤ h.length) (q : ∀ h' p, Gr h h' → TO n h' (.lett s t t2) p → Q (.ref p) h') : callS sgT (k + 3) (.mk n_LetTerm) [.str s, .ref p1, .ref p2] h Q X := by
  refine xNew rfl fun h1 N => ?_
  refine xFn (d := d_LetTerm___init__) rfl rfl ?_
  refine sE_ (xIni rfl (aC (xV (i := 0) rfl (a1 (xLst (aC (xV (i := 2) rfl (aC (xV (i := 3) rfl (aN ⟨by show _ ≤ 16777216; simp, fun h2 N2 => ?_⟩))))))))))
  refine s_init (ps := [p1, p2]) (N2.get N.at_) rfl rfl rfl (lst_got N2.at_) (ts := [t, t2]) (TOs.more (t1.gr (N.gr.trans N2.gr)) (TOs.one (t2_.gr (N.gr.trans N2.gr)))) (by simp) fun h3 il i' j' S3 ni e3 hi hj l3 => ?_
  have g3 : Gr h h3 := Stays.gr (N.gr.trans N2.gr) S3 (by simp)
  have il_ : h.length ≤ il := by have := N.len; have := N2.len; omega
  have nl : il ≠ h.length := fun z => by rw [z, e3] at l3; cases l3
  refine sF (i := 0) (p := h.length) rfl (xV (i := 1) rfl ⟨_, _, e3, rfl, by show (3 : Nat) < 900; omega, fun h4 u4 => ?_⟩)
  have g4 : Gr h h4 := g3.up u4 (Nat.le_refl _)
  have l4 := u4.get nl l3
  have e4 := u4.at_
  refine sF (i := 0) (p := h.length) rfl (xV (i := 2) rfl ⟨_, _, e4, rfl, by show (4 : Nat) < 900; omega, fun h5 u5 => ?_⟩)
  have g5 : Gr h h5 := g4.up u5 (Nat.le_refl _)
  have l5 := u5.get nl l4
  have e5 := u5.at_
  refine sF (i := 0) (p := h.length) rfl (xV (i := 3) rfl ⟨_, _, e5, rfl, by show (5 : Nat) < 900; omega, fun h6 u6 => ?_⟩)
  have g6 : Gr h h6 := g5.up u6 (Nat.le_refl _)
  have l6 := u6.get nl l5
  have e6 := u6.at_
  refine sEnd ⟨rfl, ?_⟩
  exact q h6 h.length g6 ⟨p1, p2, ⟨il, ⟨i', hi⟩, ⟨j', by rw [hj]; simp only [szTs]; omega⟩, hn, Nat.le_trans hn il_, e6, l6⟩, t1.gr g6, t2_.gr g6⟩
theorem s_mk_SetTerm {f : Str} {t t2 : Tm} {p1 p2 : Nat} (t1 : TO n h t p1) (t2_ : TO n h t2 p2) (hn : n ≤ h.length) (q : ∀ h' p, Gr h h' → TO n h' (.sett t f t2) p → Q (.ref p) h') : callS sgT (k + 3) (.mk n_SetTerm) [.ref p1, .str f, .ref p2] h Q X := by
  refine xNew rfl fun h1 N => ?_
  refine xFn (d := d_SetTerm___init__) rfl rfl ?_
  refine sE_ (xIni rfl (aC (xV (i := 0) rfl (a1 (xLst (aC (xV (i := 1) rfl (aC (xV (i := 3) rfl (aN ⟨by show _ ≤ 16777216; simp, fun h2 N2 => ?_⟩))))))))))
  refine s_init (ps := [p1, p2]) (N2.get N.at_) rfl rfl rfl (lst_got N2.at_) (ts := [t, t2]) (TOs.more (t1.gr (N.gr.trans N2.gr)) (TOs.one (t2_.gr (N.gr.trans N2.gr)))) (by simp) fun h3 il i' j' S3 ni e3 hi hj l3 => ?_
  have g3 : Gr h h3 := Stays.gr (N.gr.trans N2.gr) S3 (by simp)
  have il_ : h.length ≤ il := by have := N.len; have := N2.len; omega
  have nl : il ≠ h.length := fun z => by rw [z, e3] at l3; cases l3
  refine sF (i := 0) (p := h.length) rfl (xV (i := 1) rfl ⟨_, _, e3, rfl, by show (3 : Nat) < 900; omega, fun h4 u4 => ?_⟩)
  have g4 : Gr h h4 := g3.up u4 (Nat.le_refl _)
  have l4 := u4.get nl l3
  have e4 := u4.at_
  refine sF (i := 0) (p := h.length) rfl (xV (i := 2) rfl ⟨_, _, e4, rfl, by show (4 : Nat) < 900; omega, fun h5 u5 => ?_⟩)
  have g5 : Gr h h5 := g4.up u5 (Nat.le_refl _)
  have l5 := u5.get nl l4
  have e5 := u5.at_
  refine sF (i := 0) (p := h.length) rfl (xV (i := 3) rfl ⟨_, _, e5, rfl, by show (5 : Nat) < 900; omega, fun h6 u6 => ?_⟩)
  have g6 : Gr h h6 := g5.up u6 (Nat.le_refl _)
  have l6 := u6.get nl l5
  have e6 := u6.at_
  refine sEnd ⟨rfl, ?_⟩
  exact q h6 h.length g6 ⟨p1, p2, ⟨il, ⟨i', hi⟩, ⟨j', by rw [hj]; simp only [szTs]; omega⟩, hn, Nat.le_trans hn il_, e6, l6⟩, t1.gr g6, t2_.gr g6⟩
theorem s_mk_CallTerm {t : Tm} {p1 : Nat} {w : Str} {ts : List Tm} {ps : List Nat} {a : Nat} (t1 : TO n h t p1) (ha : h[a]? = some (.lst (ps.map .ref))) (ht : TOs n h ts ps) (hz : ts.length ≤ 900) (hn : n ≤ h.length) (q : ∀ h' p, Gr h h' → TO n h' (.cal t w ts) p → Q (.ref p) h') : callS sgT (k + 3) (.mk n_CallTerm) [.ref p1, .str w, .ref a] h Q X := by
  refine xNew rfl fun h1 N => ?_
  refine xFn (d := d_CallTerm___init__) rfl rfl ?_
  obtain ⟨tl, tm⟩ := TOs.all ht
  refine sE_ (xIni rfl (aC (xV (i := 0) rfl (a1 (xBin (xLst (a1 (xV (i := 1) rfl ⟨by show 1 ≤ 16777216; decide, fun h1b Nb => xBf (a1 (xV (i := 3) rfl ⟨_, lst_got (Nb.get (N.get ha)), ?_⟩))⟩))))))))
  have Nc := Nw.of (h := h1b) (o := .lst (ps.map .ref))
  refine ⟨_, _, Nc.get Nb.at_, Nc.at_, by show 1 + _ ≤ 16777216; rw [List.length_map]; omega, ?_⟩
  have Nd := Nw.of (h := h1b ++ [.lst (ps.map .ref)]) (o := .lst ([.ref p1] ++ ps.map .ref))
  have g2 : Gr h1 _ := (Nb.gr.nw Nc).nw Nd
  refine s_init (ps := p1 :: ps) (g2.get N.at_) rfl rfl rfl (lst_got Nd.at_) (TOs.more (t1.gr (N.gr.trans g2)) (ht.gr (N.gr.trans g2))) (by simp; omega) fun h3 il i' j' S3 ni e3 hi hj l3 => ?_
  have g3 : Gr h h3 := Stays.gr (N.gr.trans g2) S3 (by simp)
  have il_ : h.length ≤ il := by have := N.len; have := g2.le; omega
  have nl : il ≠ h.length := fun z => by rw [z, e3] at l3; cases l3
  refine sF (i := 0) (p := h.length) rfl (xV (i := 1) rfl ⟨_, _, e3, rfl, by show (3 : Nat) < 900; omega, fun h4 u4 => ?_⟩)
  have g4 : Gr h h4 := g3.up u4 (Nat.le_refl _)
  have l4 := u4.get nl l3
  have e4 := u4.at_
  refine sF (i := 0) (p := h.length) rfl (xV (i := 2) rfl ⟨_, _, e4, rfl, by show (4 : Nat) < 900; omega, fun h5 u5 => ?_⟩)
  have g5 : Gr h h5 := g4.up u5 (Nat.le_refl _)
  have l5 := u5.get nl l4
  have e5 := u5.at_
  refine sF (i := 0) (p := h.length) rfl (xBf (a1 (xV (i := 3) rfl ⟨_, lst_got (g5.get ha), ?_⟩)))
  have Ne := Nw.of (h := h5) (o := .lst (ps.map .ref))
  refine ⟨_, _, Ne.get e5, rfl, by show (5 : Nat) < 900; omega, fun h6 u6 => ?_⟩
  have g6 : Gr h h6 := (g5.nw Ne).up u6 (Nat.le_refl _)
  have l6 := u6.get nl (Ne.get l5)
  have e6 := u6.at_
  have pl5 : h.length < h5.length := lt_of e5
  have gl6 := u6.get (by omega) Ne.at_
  have gn := g5.le
  refine sEnd ⟨rfl, ?_⟩
  exact q h6 h.length g6 ⟨p1, ps, _, ⟨il, ⟨i', hi⟩, ⟨j', by rw [hj]; simp only [szTs]; omega⟩, hn, Nat.le_trans hn il_, e6, l6⟩, ⟨by omega, gl6⟩, t1.gr g6, ht.gr g6⟩
end
end Py

set_option Elab.async false
set_option linter.all false
set_option maxRecDepth 100000
set_option maxHeartbeats 4000000
/-! term_of. -/
namespace Py
open PySem
section
variable {G : Sig} {k : Nat} {X : KX} {l : Loc} {h : PH} {Q : KQ} {D : En} {b a : B} {s w : String} {r : List PV}
theorem t0 {R : Bool → PH → Prop} (e : l[0]? = some (some (.tup (.str (Str.ofString s) :: r)))) (q : R (decide (s = w)) h) : evT G (callS G k) X (.cmp .eq (.idx (.var 0) (.int 0)) (.str (Str.ofString w))) l h R :=
  tC (xIdx (xV e (xI (by rw [iT0]; exact xS (cEqS q)))))
theorem hY (e : l[0]? = some (some (.tup (.str (Str.ofString s) :: r)))) (q : evB G (callS G k) a l h { D with nx := fun l' h' => evB G (callS G k) b l' h' D }) : evB G (callS G k) (.cons (.ife (.cmp .eq (.idx (.var 0) (.int 0)) (.str (Str.ofString s))) a .nil) b) l h D :=
  sIf (r := true) (t0 e ⟨by simp, q⟩)
theorem hN (e : l[0]? = some (some (.tup (.str (Str.ofString s) :: r)))) (ne : s ≠ w) (q : evB G (callS G k) b l h D) : evB G (callS G k) (.cons (.ife (.cmp .eq (.idx (.var 0) (.int 0)) (.str (Str.ofString w))) a .nil) b) l h D :=
  sIf (r := false) (t0 e ⟨by simp [ne], sEnd q⟩)
end
theorem TOs.snoc {n : Nat} {h : PH} : ∀ {ts : List Tm} {ps : List Nat} {t : Tm} {p : Nat}, TOs n h ts ps → TO n h t p → TOs n h (ts ++ [t]) (ps ++ [p])
  | [], ps, t, p, a, b => by cases (show ps = [] from a); exact ⟨p, [], rfl, b, rfl⟩
  | u :: ts, ps, t, p, a, b => by obtain ⟨q, r, rfl, a1, a2⟩ := a; exact ⟨q, r ++ [p], rfl, a1, a2.snoc b⟩
theorem pls_map : ∀ ts : List Tm, pls ts = ts.map pl
  | [] => rfl
  | t :: ts => by show pl t :: pls ts = _; rw [pls_map]; rfl
section
variable {k : Nat} {h : PH} {Q : KQ} {X : KX}
def leafy : Tm → Bool
  | .num _ => true
  | .tru _ => true
  | .nam _ => true
  | .slf => true
  | _ => false
def thingy : Tm → Bool
  | .new _ _ => true
  | .eld _ _ => true
  | .fld _ _ => true
  | .cal _ _ _ => true
  | .sett _ _ _ => true
  | _ => false
theorem s_leafY {t : Tm} (e : leafy t = true) (q : ∀ h' p, Gr h h' → TO h.length h' t p → Q (.ref p) h') : callS sgT (k + 4) (.fn n_leaf_of) [pl t] h Q X := by
  refine xFn (d := d_leaf_of) rfl rfl ?_
  cases t <;> first | cases e; done | skip
  · exact hY rfl (sR (xMk (a1 (xIdx (xV (i := 0) rfl (xI ⟨_, rfl, s_mk_NumberTerm (Nat.le_refl _) q⟩))))))
  · exact hN rfl (by simp) (hY rfl (sR (xMk (a1 (xIdx (xV (i := 0) rfl (xI ⟨_, rfl, s_mk_TruthTerm (Nat.le_refl _) q⟩)))))))
  · exact hN rfl (by simp) (hN rfl (by simp) (hY rfl (sR (xMk (a1 (xIdx (xV (i := 0) rfl (xI ⟨_, rfl, s_mk_NameTerm (Nat.le_refl _) q⟩))))))))
  · exact hN rfl (by simp) (hN rfl (by simp) (hN rfl (by simp) (hY rfl (sR (xMk (aN (s_mk_SelfTerm (Nat.le_refl _) q)))))))
theorem s_leafN {t : Tm} (e : leafy t = false) (q : Q .non h) : callS sgT (k + 1) (.fn n_leaf_of) [pl t] h Q X := by
  refine xFn (d := d_leaf_of) rfl rfl ?_
  cases t <;> first | cases e; done | exact hN rfl (by simp) (hN rfl (by simp) (hN rfl (by simp) (hN rfl (by simp) (sR (xN q)))))
theorem s_thingN {t : Tm} (e : leafy t = false) (e2 : thingy t = false) (q : Q .non h) : callS sgT (k + 1) (.fn n_thing_term_of) [pl t] h Q X := by
  refine xFn (d := d_thing_term_of) rfl rfl ?_
  cases t <;> first | cases e; done | cases e2; done | exact hN rfl (by simp) (hN rfl (by simp) (hN rfl (by simp) (hN rfl (by simp) (hN rfl (by simp) (sR (xN q))))))
/-- what term_of does for t, from this depth on -/
def TS (t : Tm) : Prop := ∀ (k : Nat) (h : PH) (Q : KQ) (X : KX), 2 * dep t + 5 ≤ k → (∀ h' p, Gr h h' → TO h.length h' t p → Q (.ref p) h') → callS sgT k (.fn n_term_of) [pl t] h Q X
/-- all terms of a tuple -/
theorem s_list {l : Loc} {e : E} {ts : List Tm} (hi : 1 < l.length) (ih : ∀ t ∈ ts, TS t) (hk : 2 * deps ts + 5 ≤ k) (hd : ∀ t ∈ ts, dep t ≤ deps ts) (hz : ts.length ≤ 900) (he : ∀ R : KQ, R (.tup (pls ts)) h → evE sgT (callS sgT k) X e l h R)
    (q : ∀ h' ps, Gr h h' → h'[h.length]? = some (.lst (ps.map .ref)) → TOs h.length h' ts ps → Q (.ref h.length) h') : evE sgT (callS sgT k) X (.lc (.call n_term_of (.cons (.var 1) .nil)) (.nm 1) (.seq e) .no) l h Q := by
  refine xLc hi (iSeq (he _ ⟨rfl, fun h2 N => ?_⟩))
  rw [pls_map]
  refine comp_inv (fun i acc h' => Gr h h' ∧ ∃ ps : List Nat, acc = ps.map .ref ∧ h.length < h'.length ∧ TOs (h.length + 1) h' (ts.take i) ps) (fun _ _ _ _ => trivial) _ 0 [] h2 ⟨N.gr, [], rfl, by rw [N.len]; omega, rfl⟩ N.at_ (by show 0 + _ ≤ 16777216; rw [List.length_map]; omega) (fun i x acc h' K ex iv ea c1 _ => ?_) fun acc h' iv ea => ?_
  · obtain ⟨g, ps, rfl, lh, ts_⟩ := iv
    rw [List.getElem?_map] at ex
    cases et : ts[i]? with
    | none => rw [et] at ex; cases ex
    | some t =>
      rw [et] at ex
      cases (show pl t = x from Option.some.inj ex)
      have mt := List.mem_of_getElem? et
      refine xCall (a1 (xV (by rw [List.getElem?_set_self (by simpa using hi)]) (ih t mt k h' _ _ (by have := hd t mt; omega) fun h3 p g3 to => ?_)))
      refine c1 _ _ (g3.get ea) fun h4 u => ?_
      have g4 : Gr h h4 := Gr.up (g.trans g3) u (Nat.le_refl _)
      refine ⟨g4, ps ++ [p], by simp, by have := g3.le; have := u.len; omega, ?_⟩
      rw [show ts.take (0 + i + 1) = ts.take (0 + i) ++ [t] by rw [Nat.zero_add, List.take_succ, et]; rfl]
      have to2 : TO (h.length + 1) h3 t p := to.low (by omega)
      exact TOs.snoc (TOs.fm (u.fm (by omega)) _ _ (ts_.gr g3)) (TO.fm (u.fm (by omega)) _ _ to2)
  · obtain ⟨g, ps, rfl, lh, ts_⟩ := iv
    rw [List.length_map, Nat.zero_add, List.take_length] at ts_
    exact q h' ps g ea (ts_.low (by omega))
theorem deps_le : ∀ {ts : List Tm} {t : Tm}, t ∈ ts → dep t ≤ deps ts
  | u :: ts, t, m => by
    show dep t ≤ max (dep u) (deps ts)
    rcases List.mem_cons.mp m with rfl | m
    · omega
    · have := deps_le m; omega
theorem s_thing {t : Tm} (e : leafy t = false) (e2 : thingy t = true) (fi : fit t) (ih : ∀ u ∈ parts t, TS u) (hk : 2 * dep t ≤ k) (q : ∀ h' p, Gr h h' → TO h.length h' t p → Q (.ref p) h') : callS sgT (k + 4) (.fn n_thing_term_of) [pl t] h Q X := by
  revert fi ih hk q
  refine fun fi ih hk q => ?_
  refine xFn (d := d_thing_term_of) rfl rfl ?_
  cases t <;> first | cases e; done | cases e2; done | skip
  case new c ts =>
    have hk : 2 * (deps ts + 1) ≤ k := hk
    refine hY rfl (sR (xMk (aC (xIdx (xV (i := 0) rfl (xI ⟨_, rfl, a1 (s_list (ts := ts) (by show 1 < 2; decide) ih (by omega) (fun _ => deps_le) fi.1 (fun R r => xIdx (xV (i := 0) rfl (xI ⟨_, rfl, r⟩))) fun h1 ps g1 e1 t1 => ?_)⟩))))))
    exact s_mk_NewTerm e1 t1 fi.1 g1.le fun h2 p g2 to => q h2 p (g1.trans g2) to
  case eld c ts =>
    have hk : 2 * (deps ts + 1) ≤ k := hk
    refine hN rfl (by simp) ?_
    refine hY rfl (sR (xMk (aC (xIdx (xV (i := 0) rfl (xI ⟨_, rfl, a1 (s_list (ts := ts) (by show 1 < 2; decide) ih (by omega) (fun _ => deps_le) fi.1 (fun R r => xIdx (xV (i := 0) rfl (xI ⟨_, rfl, r⟩))) fun h1 ps g1 e1 t1 => ?_)⟩))))))
    exact s_mk_ElderTerm e1 t1 fi.1 g1.le fun h2 p g2 to => q h2 p (g1.trans g2) to
  case fld t f =>
    have hk : 2 * (dep t + 1) ≤ k := hk
    refine hN rfl (by simp) ?_
    refine hN rfl (by simp) ?_
    refine hY rfl (sR (xMk (aC (xCall (a1 (xIdx (xV (i := 0) rfl (xI ⟨_, rfl, ih t (by simp [parts]) _ _ _ _ (by omega) fun h1 p1 g1 t1 => ?_⟩))))))))
    refine a1 (xIdx (xV (i := 0) rfl (xI ⟨_, rfl, ?_⟩)))
    exact s_mk_FieldTerm t1 g1.le fun h2 p g2 to => q h2 p (g1.trans g2) to
  case cal t w ts =>
    have hk : 2 * (max (dep t) (deps ts) + 1) ≤ k := hk
    refine hN rfl (by simp) ?_
    refine hN rfl (by simp) ?_
    refine hN rfl (by simp) ?_
    refine hY rfl (sR (xMk (aC (xCall (a1 (xIdx (xV (i := 0) rfl (xI ⟨_, rfl, ih t (by simp [parts]) _ _ _ _ (by omega) fun h1 p1 g1 t1 => ?_⟩))))))))
    refine aC (xIdx (xV (i := 0) rfl (xI ⟨_, rfl, a1 (s_list (ts := ts) (by show 1 < 2; decide) (fun u m => ih u (List.mem_cons_of_mem _ m)) (by omega) (fun _ => deps_le) fi.1 (fun R r => xIdx (xV (i := 0) rfl (xI ⟨_, rfl, r⟩))) fun h2 ps g2 e2 t2 => ?_)⟩)))
    exact s_mk_CallTerm (t1.gr g2) e2 (t2.low g1.le) fi.1 (Nat.le_trans g1.le g2.le) fun h3 p g3 to => q h3 p ((g1.trans g2).trans g3) to
  case sett t f b =>
    have hk : 2 * (max (dep t) (dep b) + 1) ≤ k := hk
    refine hN rfl (by simp) ?_
    refine hN rfl (by simp) ?_
    refine hN rfl (by simp) ?_
    refine hN rfl (by simp) ?_
    refine hY rfl (sR (xMk (aC (xCall (a1 (xIdx (xV (i := 0) rfl (xI ⟨_, rfl, ih t (by simp [parts]) _ _ _ _ (by omega) fun h1 p1 g1 t1 => ?_⟩))))))))
    refine aC (xIdx (xV (i := 0) rfl (xI ⟨_, rfl, a1 (xCall (a1 (xIdx (xV (i := 0) rfl (xI ⟨_, rfl, ih b (by simp [parts]) _ _ _ _ (by omega) fun h2 p2 g2 t2 => ?_⟩)))))⟩)))
    exact s_mk_SetTerm (t1.gr g2) (t2.low g1.le) (Nat.le_trans g1.le g2.le) fun h3 p g3 to => q h3 p ((g1.trans g2).trans g3) to
theorem s_step {t : Tm} (fi : fit t) (ih : ∀ u ∈ parts t, TS u) : TS t := by
  intro k h Q X hk q
  obtain ⟨j, rfl⟩ : ∃ j, k = j + 5 := ⟨k - 5, by omega⟩
  refine xFn (d := d_term_of) rfl rfl ?_
  have fin : ∀ (h' : PH) (p : Nat) (D : En) (b : B), Gr h h' → TO h.length h' t p → D.rt = Q → evB sgT (callS sgT (j + 4)) (.cons (.ife (.cmp .notN (.var 1) .non) (.cons (.ret (.var 1)) .nil) .nil) b) [some (pl t), some (.ref p)] h' D := fun h' p D b g to hD =>
    sIf (r := true) (tC (xV (i := 1) rfl (xN (cNtN ⟨rfl, sR (xV (i := 1) rfl (by show D.rt (.ref p) h'; rw [hD]; exact q h' p g to))⟩))))
  by_cases f1 : leafy t = true
  · refine sAs (by show 1 < 2; decide) (xCall (a1 (xV (i := 0) rfl (s_leafY f1 fun h' p g to => ?_))))
    refine sIf (r := false) (tC (xV (i := 1) rfl (xN (cIsN ⟨rfl, sEnd (fin _ _ _ _ g to rfl)⟩))))
  have e1 : leafy t = false := by simpa using f1
  clear f1
  refine sAs (by show 1 < 2; decide) (xCall (a1 (xV (i := 0) rfl (s_leafN e1 ?_))))
  refine sIf (r := true) (tC (xV (i := 1) rfl (xN (cIsN ⟨rfl, ?_⟩))))
  by_cases f2 : thingy t = true
  · refine sAs (by show 1 < 2; decide) (xCall (a1 (xV (i := 0) rfl (s_thing e1 f2 fi ih (by omega) fun h' p g to => ?_))))
    exact sEnd (fin _ _ _ _ g to rfl)
  have e2 : thingy t = false := by simpa using f2
  clear f2
  refine sAs (by show 1 < 2; decide) (xCall (a1 (xV (i := 0) rfl (s_thingN e1 e2 (sEnd ?_)))))
  refine sIf (r := false) (tC (xV (i := 1) rfl (xN (cNtN ⟨rfl, sEnd ?_⟩))))
  cases t <;> first | cases e1; done | cases e2; done | skip
  case nt t =>
    have hk : 2 * (dep t + 1) + 5 ≤ j + 5 := hk
    refine hY rfl (sR (xMk (a1 (xCall (a1 (xIdx (xV (i := 0) rfl (xI ⟨_, rfl, ih t (by simp [parts]) _ _ _ _ (by omega) fun h1 p1 g1 t1 => ?_⟩))))))))
    exact s_mk_NotTerm t1 g1.le fun h2 p g2 to => q h2 p (g1.trans g2) to
  case two s a b =>
    have hk : 2 * (max (dep a) (dep b) + 1) + 5 ≤ j + 5 := hk
    refine hN rfl (by simp) ?_
    refine hY rfl (sR (xMk (aC (xIdx (xV (i := 0) rfl (xI ⟨_, rfl, aC (xCall (a1 (xIdx (xV (i := 0) rfl (xI ⟨_, rfl, ih a (by simp [parts]) _ _ _ _ (by omega) fun h1 p1 g1 t1 => ?_⟩)))))⟩))))))
    refine a1 (xCall (a1 (xIdx (xV (i := 0) rfl (xI ⟨_, rfl, ih b (by simp [parts]) _ _ _ _ (by omega) fun h2 p2 g2 t2 => ?_⟩)))))
    exact s_mk_TwoTerm (t1.gr g2) (t2.low g1.le) (Nat.le_trans g1.le g2.le) fun h3 p g3 to => q h3 p ((g1.trans g2).trans g3) to
  case lett s a b =>
    have hk : 2 * (max (dep a) (dep b) + 1) + 5 ≤ j + 5 := hk
    refine hN rfl (by simp) ?_
    refine hN rfl (by simp) ?_
    refine hY rfl (sR (xMk (aC (xIdx (xV (i := 0) rfl (xI ⟨_, rfl, aC (xCall (a1 (xIdx (xV (i := 0) rfl (xI ⟨_, rfl, ih a (by simp [parts]) _ _ _ _ (by omega) fun h1 p1 g1 t1 => ?_⟩)))))⟩))))))
    refine a1 (xCall (a1 (xIdx (xV (i := 0) rfl (xI ⟨_, rfl, ih b (by simp [parts]) _ _ _ _ (by omega) fun h2 p2 g2 t2 => ?_⟩)))))
    exact s_mk_LetTerm (t1.gr g2) (t2.low g1.le) (Nat.le_trans g1.le g2.le) fun h3 p g3 to => q h3 p ((g1.trans g2).trans g3) to
  case ite a b c =>
    have hk : 2 * (max (dep a) (max (dep b) (dep c)) + 1) + 5 ≤ j + 5 := hk
    refine hN rfl (by simp) ?_
    refine hN rfl (by simp) ?_
    refine hN rfl (by simp) ?_
    refine sR (xMk (aC (xCall (a1 (xIdx (xV (i := 0) rfl (xI ⟨_, rfl, ih a (by simp [parts]) _ _ _ _ (by omega) fun h1 p1 g1 t1 => ?_⟩)))))))
    refine aC (xCall (a1 (xIdx (xV (i := 0) rfl (xI ⟨_, rfl, ih b (by simp [parts]) _ _ _ _ (by omega) fun h2 p2 g2 t2 => ?_⟩)))))
    refine a1 (xCall (a1 (xIdx (xV (i := 0) rfl (xI ⟨_, rfl, ih c (by simp [parts]) _ _ _ _ (by omega) fun h3 p3 g3 t3 => ?_⟩)))))
    exact s_mk_IfTerm ((t1.gr g2).gr g3) ((t2.gr g3).low g1.le) (t3.low (Nat.le_trans g1.le g2.le)) (Nat.le_trans g1.le (Nat.le_trans g2.le g3.le)) fun h4 p g4 to => q h4 p (((g1.trans g2).trans g3).trans g4) to
mutual
theorem s_tm : ∀ t : Tm, fit t → TS t
  | .num i, f => s_step f nofun
  | .tru i, f => s_step f nofun
  | .nam i, f => s_step f nofun
  | .slf, f => s_step f nofun
  | .new c ts, f => s_step f (s_tms ts f.2)
  | .eld c ts, f => s_step f (s_tms ts f.2)
  | .fld t g, f => have h1 := s_tm t f; s_step f fun u m => by rw [List.mem_singleton.mp m]; exact h1
  | .cal t w ts, f => have h1 := s_tm t f.2.1; have h2 := s_tms ts f.2.2; s_step f fun u m => by
      rcases List.mem_cons.mp m with rfl | m
      · exact h1
      · exact h2 u m
  | .nt t, f => have h1 := s_tm t f; s_step f fun u m => by rw [List.mem_singleton.mp m]; exact h1
  | .two s a b, f => have h1 := s_tm a f.1; have h2 := s_tm b f.2; s_step f fun u m => by
      simp only [parts, List.mem_cons, List.not_mem_nil, or_false] at m
      rcases m with rfl | rfl
      · exact h1
      · exact h2
  | .ite a b c, f => have h1 := s_tm a f.1; have h2 := s_tm b f.2.1; have h3 := s_tm c f.2.2; s_step f fun u m => by
      simp only [parts, List.mem_cons, List.not_mem_nil, or_false] at m
      rcases m with rfl | rfl | rfl
      · exact h1
      · exact h2
      · exact h3
  | .lett s a b, f => have h1 := s_tm a f.1; have h2 := s_tm b f.2; s_step f fun u m => by
      simp only [parts, List.mem_cons, List.not_mem_nil, or_false] at m
      rcases m with rfl | rfl
      · exact h1
      · exact h2
  | .sett a s b, f => have h1 := s_tm a f.1; have h2 := s_tm b f.2; s_step f fun u m => by
      simp only [parts, List.mem_cons, List.not_mem_nil, or_false] at m
      rcases m with rfl | rfl
      · exact h1
      · exact h2
theorem s_tms : ∀ ts : List Tm, fits ts → ∀ t ∈ ts, TS t
  | [], f, t, m => nomatch m
  | u :: ts, f, t, m => have h1 := s_tm u f.1; have h2 := s_tms ts f.2; by
    rcases List.mem_cons.mp m with rfl | m
    · exact h1
    · exact h2 t m
end
end
end Py

set_option Elab.async false
set_option linter.all false
set_option maxRecDepth 100000
set_option maxHeartbeats 4000000
/-! Terms and programs told as tuples. -/
namespace Py
open PySem
theorem lz1 {a : PV} : [a].length ≤ SZ := by show 1 ≤ 16777216; decide
theorem lz2 {a b : PV} : [a, b].length ≤ SZ := by show 2 ≤ 16777216; decide
theorem lz3 {a b c : PV} : [a, b, c].length ≤ SZ := by show 3 ≤ 16777216; decide
theorem lz4 {a b c d : PV} : [a, b, c, d].length ≤ SZ := by show 4 ≤ 16777216; decide
theorem TOs.ix {n : Nat} {h : PH} : ∀ {ts : List Tm} {ps : List Nat} {i p : Nat}, TOs n h ts ps → ps[i]? = some p → ∃ t, ts[i]? = some t ∧ TO n h t p
  | [], ps, i, p, e, m => by cases (show ps = [] from e); cases m
  | t :: ts, ps, i, p, ⟨p0, r, e, e1, e2⟩, m => by
    subst e
    cases i with
    | zero => cases (show p0 = p by simpa using m); exact ⟨t, rfl, e1⟩
    | succ i => obtain ⟨t', h1, h2⟩ := TOs.ix (ts := ts) (ps := r) (i := i) e2 (by simpa using m); exact ⟨t', by simpa using h1, h2⟩
theorem fits_at : ∀ {ts : List Tm}, fits ts → ∀ t ∈ ts, fit t
  | [], _, t, m => by cases m
  | u :: ts, h, t, m => by
    rcases List.mem_cons.mp m with rfl | m
    · exact h.1
    · exact fits_at h.2 t m
theorem shaped_of {d : PyData} (a : d.canLay0 = true) (b : d.depth ≤ 64) : SeqAt.shaped d = true := by
  unfold SeqAt.shaped
  rw [a, decide_eq_true b]; rfl
def PL (t : Tm) : Prop := ∀ (k : Nat) (h : PH) (n p f : Nat) (Q : KQ) (X : KX), 3 * dep t + 3 ≤ k → fit t → TO n h t p → mth sgT (tmCl t) n_plain = some f → (∀ h', Gr h h' → Q (pl t) h') → callS sgT k (.fn f) [.ref p] h Q X
theorem mt_plain (t : Tm) : ∃ f, mth sgT (tmCl t) n_plain = some f := by cases t <;> exact ⟨_, rfl⟩
section
variable {k : Nat} {h : PH} {Q : KQ} {X : KX} {l : Loc}
theorem s_plains {n a : Nat} {ts : List Tm} {ps : List Nat} (ih : ∀ u ∈ ts, PL u) (hk : ∀ u ∈ ts, 3 * dep u + 3 ≤ k) (hf : ∀ u ∈ ts, fit u) (hz : ts.length ≤ 900) (e : h[a]? = some (.lst (ps.map .ref))) (hts : TOs n h ts ps) (q : ∀ h', Gr h h' → Q (.tup (pls ts)) h') : callS sgT (k + 1) (.fn n_plains) [.ref a] h Q X := by
  refine xFn (d := d_plains) rfl rfl ?_
  have lps : ps.length = ts.length := hts.all.1
  refine sR (xBf (a1 (xLc (by show 1 < 2; decide) (iSeq (xV (i := 0) rfl ⟨lst_got e, fun h2 N => ?_⟩)))))
  refine comp_inv (fun j acc h' => Gr h h' ∧ acc = (ts.take j).map pl) (fun _ _ _ iv => lst_got (iv.1.get e)) _ 0 [] h2 ⟨N.gr, rfl⟩ N.at_ (by show 0 + _ ≤ 16777216; rw [List.length_map]; omega) (fun j x acc h' K ex iv ea c1 _ => ?_) fun acc h' iv ea => ?_
  · obtain ⟨gr, rfl⟩ := iv
    rw [List.getElem?_map] at ex
    obtain ⟨q', eq', rfl⟩ := Option.map_eq_some_iff.mp ex
    obtain ⟨u, eu, tu⟩ := hts.ix eq'
    have mu := List.mem_of_getElem? eu
    obtain ⟨f, hf'⟩ := mt_plain u
    obtain ⟨ps', own', ⟨il', i', j', _, _, e1', _⟩, _⟩ := tu.hd
    refine xMt (xV (i := 1) (v := .ref q') rfl ⟨q', _, _, f, rfl, gr.get e1', hf', aN ?_⟩)
    refine ih u mu k h' n q' f _ _ (hk u mu) (hf u mu) (tu.gr gr) hf' fun h3 g3 => ?_
    refine c1 _ _ (g3.get ea) fun h4 u4 => ⟨Gr.up (Stays.trans gr g3) u4 (Nat.le_refl _), ?_⟩
    rw [show ts.take (0 + j + 1) = ts.take (0 + j) ++ [u] by rw [Nat.zero_add, List.take_succ, eu]; rfl, List.map_append]
    rfl
  · obtain ⟨gr, rfl⟩ := iv
    rw [List.length_map, Nat.zero_add, lps, List.take_length] at ea
    refine ⟨_, lst_got ea, ?_⟩
    rw [← pls_map]
    exact q h' gr
theorem pl_num {i : Int} : PL (.num i) := by
  intro k h n p f Q X hk fi to hf q
  cases (show some n_NumberTerm_plain = some f from hf)
  obtain ⟨k, rfl⟩ : ∃ j, k = j + 1 := ⟨k - 1, by omega⟩
  obtain ⟨il, i', j, _, _, e1, _⟩ := to
  refine xFn (d := d_NumberTerm_plain) rfl rfl ?_
  exact sR (xTup (aC (xS (a1 (xAtV (i := 0) rfl e1 rfl rfl ⟨lz2, q h .refl⟩)))))
theorem pl_tru {i : Bool} : PL (.tru i) := by
  intro k h n p f Q X hk fi to hf q
  cases (show some n_TruthTerm_plain = some f from hf)
  obtain ⟨k, rfl⟩ : ∃ j, k = j + 1 := ⟨k - 1, by omega⟩
  obtain ⟨il, i', j, _, _, e1, _⟩ := to
  refine xFn (d := d_TruthTerm_plain) rfl rfl ?_
  exact sR (xTup (aC (xS (a1 (xAtV (i := 0) rfl e1 rfl rfl ⟨lz2, q h .refl⟩)))))
theorem pl_nam {i : Str} : PL (.nam i) := by
  intro k h n p f Q X hk fi to hf q
  cases (show some n_NameTerm_plain = some f from hf)
  obtain ⟨k, rfl⟩ : ∃ j, k = j + 1 := ⟨k - 1, by omega⟩
  obtain ⟨il, i', j, _, _, e1, _⟩ := to
  refine xFn (d := d_NameTerm_plain) rfl rfl ?_
  exact sR (xTup (aC (xS (a1 (xAtV (i := 0) rfl e1 rfl rfl ⟨lz2, q h .refl⟩)))))
theorem pl_slf : PL .slf := by
  intro k h n p f Q X hk fi to hf q
  cases (show some n_SelfTerm_plain = some f from hf)
  obtain ⟨k, rfl⟩ : ∃ j, k = j + 1 := ⟨k - 1, by omega⟩
  refine xFn (d := d_SelfTerm_plain) rfl rfl ?_
  exact sR (xTup (a1 (xS ⟨lz1, q h .refl⟩)))
theorem pl_new {c : Str} {ts : List Tm} (ih : ∀ u ∈ ts, PL u) : PL (.new c ts) := by
  intro k h n p f Q X hk fi to hf q
  cases (show some n_NewTerm_plain = some f from hf)
  simp only [dep] at hk
  obtain ⟨k, rfl⟩ : ∃ j, k = j + 2 := ⟨k - 2, by omega⟩
  obtain ⟨ps, ⟨il, i', j, _, _, e1, e2⟩, hts⟩ := to
  refine xFn (d := d_NewTerm_plain) rfl rfl ?_
  refine sR (xTup (aC (xS (aC (xAtV (i := 0) rfl e1 rfl rfl (a1 (xCall (a1 (xAtV (i := 0) rfl e1 rfl rfl ?_)))))))))
  exact s_plains ih (fun u mu => by have := deps_le mu; omega) (fits_at fi.2) fi.1 e2 hts fun h' g => ⟨lz3, q h' g⟩
theorem pl_eld {c : Str} {ts : List Tm} (ih : ∀ u ∈ ts, PL u) : PL (.eld c ts) := by
  intro k h n p f Q X hk fi to hf q
  cases (show some n_ElderTerm_plain = some f from hf)
  simp only [dep] at hk
  obtain ⟨k, rfl⟩ : ∃ j, k = j + 2 := ⟨k - 2, by omega⟩
  obtain ⟨ps, ⟨il, i', j, _, _, e1, e2⟩, hts⟩ := to
  refine xFn (d := d_ElderTerm_plain) rfl rfl ?_
  refine sR (xTup (aC (xS (aC (xAtV (i := 0) rfl e1 rfl rfl (a1 (xCall (a1 (xAtV (i := 0) rfl e1 rfl rfl ?_)))))))))
  exact s_plains ih (fun u mu => by have := deps_le mu; omega) (fits_at fi.2) fi.1 e2 hts fun h' g => ⟨lz3, q h' g⟩
/-- a part's tuple, by a field -/
theorem x_pl {n p p1 c fl : Nat} {fs : List (Nat × PV)} {t : Tm} (ih : PL t) (hk : 3 * dep t + 3 ≤ k) (fi : fit t) (to : TO n h t p1) (l0 : l[0]? = some (some (.ref p))) (e1 : h[p]? = some (.ins c fs)) (a3 : fld sgT c fl = true) (a4 : getN fl fs = some (.ref p1)) (q : ∀ h', Gr h h' → Q (pl t) h') : evE sgT (callS sgT k) X (.meth (.attr (.var 0) fl) n_plain .nil) l h Q := by
  obtain ⟨f, hf⟩ := mt_plain t
  obtain ⟨_, _, ⟨_, _, _, _, _, e2, _⟩, _⟩ := to.hd
  exact xMt (xAtV (i := 0) l0 e1 a3 a4 ⟨p1, _, _, f, rfl, e2, hf, aN (ih k h n p1 f _ _ hk fi to hf q)⟩)
theorem pl_fld {t : Tm} {w : Str} (ih : PL t) : PL (.fld t w) := by
  intro k h n p f Q X hk fi to hf q
  cases (show some n_FieldTerm_plain = some f from hf)
  simp only [dep] at hk
  obtain ⟨k, rfl⟩ : ∃ j, k = j + 1 := ⟨k - 1, by omega⟩
  obtain ⟨p1, ⟨il, i', j, _, _, e1, e2⟩, t1⟩ := to
  refine xFn (d := d_FieldTerm_plain) rfl rfl ?_
  refine sR (xTup (aC (xS (aC (x_pl ih (by omega) fi t1 rfl e1 rfl rfl fun h1 g1 => a1 (xAtV (i := 0) rfl (g1.get e1) rfl rfl ⟨lz3, q h1 g1⟩))))))
theorem pl_nt {t : Tm} (ih : PL t) : PL (.nt t) := by
  intro k h n p f Q X hk fi to hf q
  cases (show some n_NotTerm_plain = some f from hf)
  simp only [dep] at hk
  obtain ⟨k, rfl⟩ : ∃ j, k = j + 1 := ⟨k - 1, by omega⟩
  obtain ⟨p1, ⟨il, i', j, _, _, e1, e2⟩, t1⟩ := to
  refine xFn (d := d_NotTerm_plain) rfl rfl ?_
  refine sR (xTup (aC (xS (a1 (x_pl ih (by omega) fi t1 rfl e1 rfl rfl fun h1 g1 => ⟨lz2, q h1 g1⟩)))))
theorem pl_cal {t : Tm} {w : Str} {ts : List Tm} (ih0 : PL t) (ih : ∀ u ∈ ts, PL u) : PL (.cal t w ts) := by
  intro k h n p f Q X hk fi to hf q
  cases (show some n_CallTerm_plain = some f from hf)
  simp only [dep] at hk
  obtain ⟨k, rfl⟩ : ∃ j, k = j + 2 := ⟨k - 2, by omega⟩
  obtain ⟨p1, ps, gl, ⟨il, i', j, _, _, e1, e2⟩, e3, t1, hts⟩ := to
  refine xFn (d := d_CallTerm_plain) rfl rfl ?_
  refine sR (xTup (aC (xS (aC (x_pl ih0 (by omega) fi.2.1 t1 rfl e1 rfl rfl fun h1 g1 => ?_)))))
  refine aC (xAtV (i := 0) rfl (g1.get e1) rfl rfl (a1 (xCall (a1 (xAtV (i := 0) rfl (g1.get e1) rfl rfl ?_)))))
  exact s_plains ih (fun u mu => by have := deps_le mu; omega) (fits_at fi.2.2) fi.1 (g1.get e3.2) (hts.gr g1) fun h' g => ⟨lz4, q h' (Stays.trans g1 g)⟩
theorem pl_two {s : Str} {a b : Tm} (iha : PL a) (ihb : PL b) : PL (.two s a b) := by
  intro k h n p f Q X hk fi to hf q
  cases (show some n_TwoTerm_plain = some f from hf)
  simp only [dep] at hk
  obtain ⟨k, rfl⟩ : ∃ j, k = j + 1 := ⟨k - 1, by omega⟩
  obtain ⟨p1, p2, ⟨il, i', j, _, _, e1, e2⟩, t1, t2⟩ := to
  refine xFn (d := d_TwoTerm_plain) rfl rfl ?_
  refine sR (xTup (aC (xS (aC (xAtV (i := 0) rfl e1 rfl rfl (aC (x_pl iha (by omega) fi.1 t1 rfl e1 rfl rfl fun h1 g1 => ?_)))))))
  exact a1 (x_pl ihb (by omega) fi.2 (t2.gr g1) rfl (g1.get e1) rfl rfl fun h2 g2 => ⟨lz4, q h2 (Stays.trans g1 g2)⟩)
theorem pl_let {s : Str} {a b : Tm} (iha : PL a) (ihb : PL b) : PL (.lett s a b) := by
  intro k h n p f Q X hk fi to hf q
  cases (show some n_LetTerm_plain = some f from hf)
  simp only [dep] at hk
  obtain ⟨k, rfl⟩ : ∃ j, k = j + 1 := ⟨k - 1, by omega⟩
  obtain ⟨p1, p2, ⟨il, i', j, _, _, e1, e2⟩, t1, t2⟩ := to
  refine xFn (d := d_LetTerm_plain) rfl rfl ?_
  refine sR (xTup (aC (xS (aC (xAtV (i := 0) rfl e1 rfl rfl (aC (x_pl iha (by omega) fi.1 t1 rfl e1 rfl rfl fun h1 g1 => ?_)))))))
  exact a1 (x_pl ihb (by omega) fi.2 (t2.gr g1) rfl (g1.get e1) rfl rfl fun h2 g2 => ⟨lz4, q h2 (Stays.trans g1 g2)⟩)
theorem pl_set {s : Str} {a b : Tm} (iha : PL a) (ihb : PL b) : PL (.sett a s b) := by
  intro k h n p f Q X hk fi to hf q
  cases (show some n_SetTerm_plain = some f from hf)
  simp only [dep] at hk
  obtain ⟨k, rfl⟩ : ∃ j, k = j + 1 := ⟨k - 1, by omega⟩
  obtain ⟨p1, p2, ⟨il, i', j, _, _, e1, e2⟩, t1, t2⟩ := to
  refine xFn (d := d_SetTerm_plain) rfl rfl ?_
  refine sR (xTup (aC (xS (aC (x_pl iha (by omega) fi.1 t1 rfl e1 rfl rfl fun h1 g1 => ?_)))))
  refine aC (xAtV (i := 0) rfl (g1.get e1) rfl rfl ?_)
  exact a1 (x_pl ihb (by omega) fi.2 (t2.gr g1) rfl (g1.get e1) rfl rfl fun h2 g2 => ⟨lz4, q h2 (Stays.trans g1 g2)⟩)
theorem pl_ite {a b c : Tm} (iha : PL a) (ihb : PL b) (ihc : PL c) : PL (.ite a b c) := by
  intro k h n p f Q X hk fi to hf q
  cases (show some n_IfTerm_plain = some f from hf)
  simp only [dep] at hk
  obtain ⟨k, rfl⟩ : ∃ j, k = j + 1 := ⟨k - 1, by omega⟩
  obtain ⟨p1, p2, p3, ⟨il, i', j, _, _, e1, e2⟩, t1, t2, t3⟩ := to
  refine xFn (d := d_IfTerm_plain) rfl rfl ?_
  refine sR (xTup (aC (xS (aC (x_pl iha (by omega) fi.1 t1 rfl e1 rfl rfl fun h1 g1 => ?_)))))
  refine aC (x_pl ihb (by omega) fi.2.1 (t2.gr g1) rfl (g1.get e1) rfl rfl fun h2 g2 => ?_)
  have g12 := Stays.trans g1 g2
  exact a1 (x_pl ihc (by omega) fi.2.2 (t3.gr g12) rfl (Gr.get g12 e1) rfl rfl fun h3 g3 => ⟨lz4, q h3 (Stays.trans g12 g3)⟩)
end
mutual
theorem plT : ∀ t : Tm, PL t
  | .num _ => pl_num
  | .tru _ => pl_tru
  | .nam _ => pl_nam
  | .slf => pl_slf
  | .new _ ts => pl_new (plTs ts)
  | .eld _ ts => pl_eld (plTs ts)
  | .fld t _ => pl_fld (plT t)
  | .cal t _ ts => pl_cal (plT t) (plTs ts)
  | .nt t => pl_nt (plT t)
  | .two _ a b => pl_two (plT a) (plT b)
  | .ite a b c => pl_ite (plT a) (plT b) (plT c)
  | .lett _ a b => pl_let (plT a) (plT b)
  | .sett a _ b => pl_set (plT a) (plT b)
theorem plTs : ∀ (ts : List Tm), ∀ u ∈ ts, PL u
  | [], u, m => by cases m
  | t :: ts, u, m => by
    rcases List.mem_cons.mp m with e | m
    · rw [e]; exact plT t
    · exact plTs ts u m
end
/-! ### what a term tells of itself -/
section
variable {k n p : Nat} {h : PH} {Q : KQ} {X : KX}
theorem m_parts {t : Tm} (to : TO n h t p) (q : ∀ h' ps, Nw h (.lst (ps.map PV.ref)) h' → TOs n h (parts t) ps → Q (.ref h.length) h') : callS sgT (k + 1) (.fn n_Term_parts) [.ref p] h Q X := by
  obtain ⟨ps, own, ⟨il, i, j, _, _, e1, e2⟩, ts⟩ := to.hd
  refine xFn (d := d_Term_parts) rfl rfl ?_
  exact sR (xBf (a1 (xAtV (i := 0) rfl e1 (fld_h t).2.2 rfl ⟨_, lst_got e2, q _ ps Nw.of ts⟩)))
theorem m_depth {t : Tm} (to : TO n h t p) (q : Q (.int (hgt t : Nat)) h) : callS sgT (k + 1) (.fn n_Term_depth) [.ref p] h Q X := by
  obtain ⟨ps, own, ⟨il, ⟨i, hi⟩, j, _, _, e1, e2⟩, ts⟩ := to.hd
  refine xFn (d := d_Term_depth) rfl rfl ?_
  refine sR (xAtV (i := 0) rfl e1 (fld_h t).1 rfl ?_)
  show Q (.int i) h
  rw [hi, ← ht_parts]
  exact q
theorem m_size {t : Tm} (to : TO n h t p) (q : Q (.int (szT t : Nat)) h) : callS sgT (k + 1) (.fn n_Term_size) [.ref p] h Q X := by
  obtain ⟨ps, own, ⟨il, i, ⟨j, hj⟩, _, _, e1, e2⟩, ts⟩ := to.hd
  refine xFn (d := d_Term_size) rfl rfl ?_
  refine sR (xAtV (i := 0) rfl e1 (fld_h t).2.1 rfl ?_)
  show Q (.int j) h
  rw [hj]
  exact q
end
end Py

set_option Elab.async false
set_option linter.all false
set_option maxRecDepth 100000
set_option maxHeartbeats 4000000
/-! Terms as flat data; how long they are when shown. -/
namespace Py
open PySem
def okS (s : Str) : Prop := PyData.strOk s = true ∧ s.length ≤ 12
mutual
/-- names and numbers are as the law draws them -/
def wel : Tm → Prop
  | .num i => 0 ≤ i ∧ i < 1000000000
  | .tru _ => True
  | .nam s => okS s
  | .slf => True
  | .new c ts => okS c ∧ wels ts
  | .eld w ts => okS w ∧ wels ts
  | .fld t f => wel t ∧ okS f
  | .cal t w ts => wel t ∧ okS w ∧ wels ts
  | .nt t => wel t
  | .two s a b => okS s ∧ wel a ∧ wel b
  | .ite a b c => wel a ∧ wel b ∧ wel c
  | .lett x a b => okS x ∧ wel a ∧ wel b
  | .sett t f b => wel t ∧ okS f ∧ wel b
def wels : List Tm → Prop
  | [] => True
  | t :: ts => wel t ∧ wels ts
end
structure FlP (n : Nat) (x : PV) : Prop where
  f : flat x = true
  c : (dat x).canLay0 = true
  d : (dat x).depth ≤ n
theorem FlP.mono {n m : Nat} {x : PV} (a : FlP n x) (h : n ≤ m) : FlP m x := ⟨a.f, a.c, Nat.le_trans a.d h⟩
theorem FlP.str {n : Nat} {s : Str} (h : PyData.strOk s = true) : FlP n (.str s) := ⟨rfl, by simp [dat, PyData.canLay0, h], by simp [dat, PyData.depth]⟩
theorem FlP.lit {n : Nat} {s : String} : FlP n (.str (Str.ofString s)) := .str (strOk_lit s)
theorem FlP.int {n : Nat} {i : Int} : FlP n (.int i) := ⟨rfl, by simp [dat, PyData.canLay0], by simp [dat, PyData.depth]⟩
theorem FlP.bl {n : Nat} {i : Bool} : FlP n (.bl i) := ⟨rfl, by simp [dat, PyData.canLay0], by simp [dat, PyData.depth]⟩
theorem FlP.non {n : Nat} : FlP n .non := ⟨rfl, by simp [dat, PyData.canLay0], by simp [dat, PyData.depth]⟩
def FlPs (n : Nat) (xs : List PV) : Prop := ∀ x ∈ xs, FlP n x
theorem FlPs.nil {n : Nat} : FlPs n [] := fun _ m => by cases m
theorem FlPs.cons {n : Nat} {x : PV} {xs : List PV} (a : FlP n x) (b : FlPs n xs) : FlPs n (x :: xs) := fun y m => by
  rcases List.mem_cons.mp m with rfl | m
  · exact a
  · exact b y m
theorem FlPs.all {n : Nat} : ∀ {xs : List PV}, FlPs n xs → flats xs = true ∧ PyData.canLayAll0 (dats xs) = true ∧ PyData.depthAll (dats xs) ≤ n
  | [], _ => ⟨rfl, by simp [dats, PyData.canLayAll0], by simp [dats, PyData.depthAll]⟩
  | x :: r, h => by
    obtain ⟨a, b, c⟩ := FlPs.all (n := n) (xs := r) fun y m => h y (List.mem_cons_of_mem _ m)
    have z := h x (List.mem_cons_self ..)
    refine ⟨?_, by simp [dats, PyData.canLayAll0, z.c, b], ?_⟩
    · show (flat x && flats r) = true
      rw [z.f, a]; rfl
    · have := z.d
      simp only [dats, PyData.depthAll]
      omega
theorem FlP.tup {n : Nat} {xs : List PV} (h : FlPs n xs) : FlP (n + 1) (.tup xs) := by
  obtain ⟨a, b, c⟩ := h.all
  exact ⟨a, by simp [dat, PyData.canLay0, b], by simp only [dat, PyData.depth]; omega⟩
theorem FlP.ok {n : Nat} {x : PV} (h : FlP n x) (hn : n ≤ 64) : okV x = true := by
  unfold okV
  rw [h.f, shaped_of h.c (Nat.le_trans h.d hn)]; rfl
mutual
theorem fl_pl : ∀ t : Tm, wel t → FlP (2 * dep t + 1) (pl t)
  | .num _, _ => .tup (.cons .lit (.cons .int .nil))
  | .tru _, _ => .tup (.cons .lit (.cons .bl .nil))
  | .nam _, h => .tup (.cons .lit (.cons (.str h.1) .nil))
  | .slf, _ => .tup (.cons .lit .nil)
  | .new _ ts, h => (FlP.tup (.cons .lit (.cons (.str h.1.1) (.cons (.tup (fl_pls ts h.2)) .nil)))).mono (by simp only [dep]; omega)
  | .eld _ ts, h => (FlP.tup (.cons .lit (.cons (.str h.1.1) (.cons (.tup (fl_pls ts h.2)) .nil)))).mono (by simp only [dep]; omega)
  | .fld t _, h => (FlP.tup (.cons .lit (.cons (fl_pl t h.1) (.cons (.str h.2.1) .nil)))).mono (by simp only [dep]; omega)
  | .cal t _ ts, h => (FlP.tup (n := 2 * max (dep t) (deps ts) + 2) (.cons .lit (.cons ((fl_pl t h.1).mono (by omega)) (.cons (.str h.2.1.1) (.cons ((FlP.tup (fl_pls ts h.2.2)).mono (by omega)) .nil))))).mono (by simp only [dep]; omega)
  | .nt t, h => (FlP.tup (.cons .lit (.cons (fl_pl t h) .nil))).mono (by simp only [dep]; omega)
  | .two _ a b, h => (FlP.tup (n := 2 * max (dep a) (dep b) + 1) (.cons .lit (.cons (.str h.1.1) (.cons ((fl_pl a h.2.1).mono (by omega)) (.cons ((fl_pl b h.2.2).mono (by omega)) .nil))))).mono (by simp only [dep]; omega)
  | .ite a b c, h => (FlP.tup (n := 2 * max (dep a) (max (dep b) (dep c)) + 1) (.cons .lit (.cons ((fl_pl a h.1).mono (by omega)) (.cons ((fl_pl b h.2.1).mono (by omega)) (.cons ((fl_pl c h.2.2).mono (by omega)) .nil))))).mono (by simp only [dep]; omega)
  | .lett _ a b, h => (FlP.tup (n := 2 * max (dep a) (dep b) + 1) (.cons .lit (.cons (.str h.1.1) (.cons ((fl_pl a h.2.1).mono (by omega)) (.cons ((fl_pl b h.2.2).mono (by omega)) .nil))))).mono (by simp only [dep]; omega)
  | .sett a _ b, h => (FlP.tup (n := 2 * max (dep a) (dep b) + 1) (.cons .lit (.cons ((fl_pl a h.1).mono (by omega)) (.cons (.str h.2.1.1) (.cons ((fl_pl b h.2.2).mono (by omega)) .nil))))).mono (by simp only [dep]; omega)
theorem fl_pls : ∀ ts : List Tm, wels ts → FlPs (2 * deps ts + 1) (pls ts)
  | [], _ => .nil
  | t :: ts, h => .cons ((fl_pl t h.1).mono (by simp only [deps]; omega)) fun y m => (fl_pls ts h.2 y m).mono (by simp only [deps]; omega)
end
end Py

set_option Elab.async false
set_option linter.all false
set_option maxRecDepth 100000
set_option maxHeartbeats 4000000
/-! The law's own parts. -/
namespace Py
open PySem
section
variable {k : Nat} {h : PH} {Q : KQ} {X : KX} {l : Loc}
theorem tAnd {a b : C} {r : Bool} {R : Bool → PH → Prop} (q : evT sgT (callS sgT k) X a l h fun r' h1 => r' = r ∧ if r = true then evT sgT (callS sgT k) X b l h1 R else R false h1) : evT sgT (callS sgT k) X (.and a b) l h R := by
  show evT sgT (callS sgT k) X a l h _
  exact mT_ q fun x h1 z => by obtain ⟨rfl, z⟩ := z; exact z
theorem tOr {a b : C} {r : Bool} {R : Bool → PH → Prop} (q : evT sgT (callS sgT k) X a l h fun r' h1 => r' = r ∧ if r = true then R true h1 else evT sgT (callS sgT k) X b l h1 R) : evT sgT (callS sgT k) X (.or a b) l h R := by
  show evT sgT (callS sgT k) X a l h _
  exact mT_ q fun x h1 z => by obtain ⟨rfl, z⟩ := z; exact z
theorem sIfB {c : C} {a d b : B} {D : En} (q : evT sgT (callS sgT k) (fun x h' => D.ex x l h') c l h fun r h1 => evB sgT (callS sgT k) (cond r a d) l h1 { D with nx := fun l' h' => evB sgT (callS sgT k) b l' h' D }) : evB sgT (callS sgT k) (.cons (.ife c a d) b) l h D := by
  refine evT_mono (cs_le sgT k) (fun _ _ z => z) c l h _ _ (fun r' h1 q => ?_) q
  cases r' <;> exact q
theorem tVb {e : E} {R : Bool → PH → Prop} (q : evE sgT (callS sgT k) X e l h fun x h1 => ∃ r, x = .bl r ∧ R r h1) : evT sgT (callS sgT k) X (.v e) l h R := mE_ q fun x h1 ⟨r, e1, z⟩ => ⟨r, by rw [e1]; rfl, z⟩
theorem xAnd {a b : E} {r : Bool} (q : evE sgT (callS sgT k) X a l h fun x h1 => x = .bl r ∧ if r = true then evE sgT (callS sgT k) X b l h1 Q else Q (.bl false) h1) : evE sgT (callS sgT k) X (.and a b) l h Q := by
  show evE sgT (callS sgT k) X a l h _
  exact mE_ q fun x h1 z => ⟨r, z.1, z.2⟩
theorem xOr {a b : E} {r : Bool} (q : evE sgT (callS sgT k) X a l h fun x h1 => x = .bl r ∧ if r = true then Q (.bl true) h1 else evE sgT (callS sgT k) X b l h1 Q) : evE sgT (callS sgT k) X (.or a b) l h Q := by
  show evE sgT (callS sgT k) X a l h _
  exact mE_ q fun x h1 z => ⟨r, z.1, z.2⟩
end
/-- what stands in a term's tuple behind its form -/
inductive It where
  | st (s : Str) | nu (i : Int) | tr (b : Bool) | tm (t : Tm) | tms (ts : List Tm)
def It.pv : It → PV
  | .st s => .str s
  | .nu i => .int i
  | .tr b => .bl b
  | .tm t => pl t
  | .tms ts => .tup (pls ts)
def It.out : It → List Tm
  | .tm t => [t]
  | .tms ts => ts
  | _ => []
def its : Tm → List It
  | .num i => [.nu i]
  | .tru b => [.tr b]
  | .nam s => [.st s]
  | .slf => []
  | .new c ts => [.st c, .tms ts]
  | .eld w ts => [.st w, .tms ts]
  | .fld t f => [.tm t, .st f]
  | .cal t w ts => [.tm t, .st w, .tms ts]
  | .nt t => [.tm t]
  | .two s a b => [.st s, .tm a, .tm b]
  | .ite a b c => [.tm a, .tm b, .tm c]
  | .lett x a b => [.st x, .tm a, .tm b]
  | .sett t f b => [.tm t, .st f, .tm b]
theorem pl_its (t : Tm) : ∃ hd : Str, pl t = .tup (.str hd :: (its t).map It.pv) := by cases t <;> exact ⟨_, rfl⟩
theorem its_out (t : Tm) : (its t).flatMap It.out = parts t := by cases t <;> simp [its, It.out, parts]
/-- an item may be looked at -/
def It.ok : It → Prop
  | .tm t => okV (pl t) = true
  | .tms ts => okV (.tup (pls ts)) = true
  | _ => True
theorem okV_nil : okV (.tup []) = true := (FlP.tup (n := 0) .nil).ok (by omega)
theorem ne_nilT {v : PV} {vs : List PV} {h : PH} {R : Bool → PH → Prop} (o : okV (.tup (v :: vs)) = true) (q : R true h) : cmpV .ne (.tup (v :: vs)) (.tup []) h R := by
  rw [cmp_ne o okV_nil]
  exact q
section
variable {k : Nat} {h : PH} {Q : KQ} {X : KX}
theorem s_lparts {t : Tm} (ok : ∀ i ∈ its t, i.ok) (hz : (parts t).length ≤ 900) (q : ∀ h' a, Gr h h' → h'[a]? = some (.lst (pls (parts t))) → h.length ≤ a → Q (.ref a) h') : callS sgT (k + 1) (.fn n__law_parts) [pl t] h Q X := by
  obtain ⟨hd, e⟩ := pl_its t
  refine xFn (d := d__law_parts) rfl rfl ?_
  refine sAs (by show 1 < 3; decide) (xLst (aN ⟨by decide, fun h1 N1 => ?_⟩))
  rw [e]
  have c1 : cut (PV.str hd :: (its t).map It.pv) (some 1) none = (its t).map It.pv := by
    unfold cut sIx
    simp
    exact List.take_of_length_le (by simp)
  refine sFor (iSeq (xs := (its t).map It.pv) (xSlc (xV (i := 0) (v := .tup (.str hd :: (its t).map It.pv)) rfl (xOS (i := 1) (xI ⟨rfl, xON ?_⟩)))))
  show itemsOf h1 (.tup (cut (PV.str hd :: (its t).map It.pv) (some 1) none)) = some _ ∧ _
  rw [c1]
  refine ⟨rfl, ?_⟩
  refine iter_invN (fun i l' h' => ∃ x2 a, l' = [some (.tup (.str hd :: (its t).map It.pv)), some (.ref a), x2] ∧ Gr h h' ∧ h'[a]? = some (.lst (pls (((its t).take i).flatMap It.out))) ∧ h.length ≤ a) (fun _ _ _ _ => trivial) _ 0 (fun i v ev l' h' K iv hK => ?_) (fun l' h' iv => ?_) _ h1 ⟨none, h.length, rfl, N1.gr, by rw [N1.at_]; rfl, Nat.le_refl _⟩
  · rw [Nat.zero_add] at iv
    obtain ⟨x2, a, rfl, gr, ea, la⟩ := iv
    rw [List.getElem?_map] at ev
    obtain ⟨it, ei, rfl⟩ := Option.map_eq_some_iff.mp ev
    have oi := ok it (List.mem_of_getElem? ei)
    refine ⟨by show 2 < 3; decide, ?_⟩
    have tk : ((its t).take (0 + i + 1)).flatMap It.out = ((its t).take i).flatMap It.out ++ it.out := by rw [Nat.zero_add, List.take_succ, ei]; simp
    have gen : ∀ (h2 : PH) (x : Option PV) (b2 : Nat), Gr h h2 → h2[b2]? = some (.lst (pls (((its t).take i).flatMap It.out ++ it.out))) → h.length ≤ b2 → x = some it.pv → K [some (.tup (.str hd :: (its t).map It.pv)), some (.ref b2), x] h2 := fun h2 x b2 g2 e2 l2 _ => hK _ _ ⟨x, b2, rfl, g2, by rw [tk]; exact e2, l2⟩
    have atom : ∀ (ty : String), tyN h' it.pv = some ty → isB "tuple" ty = false → it.out = [] → evB sgT (callS sgT k) (match b__law_parts with | .cons _ (.cons (.for _ _ b) _) => b | _ => .nil) [some (.tup (.str hd :: (its t).map It.pv)), some (.ref a), some it.pv] h' ⟨K, Q, K, fun x _ h' => X x h'⟩ := by
      intro ty t1 t2 t3
      refine sIfB (tAnd (r := false) (tVb (xIsi (t := ty) (xV (i := 2) rfl ⟨t1, false, congrArg PV.bl t2, rfl, ?_⟩))))
      refine sIfB (tAnd (r := false) (tVb (xIsi (t := ty) (xV (i := 2) rfl ⟨t1, false, congrArg PV.bl t2, rfl, ?_⟩))))
      refine sEnd (G := sgT) (k := k) (sEnd (G := sgT) (k := k) (sEnd (G := sgT) (k := k) ?_))
      exact gen h' _ a gr (by rw [t3, List.append_nil]; exact ea) la rfl
    have lt : (((its t).take i).flatMap It.out ++ it.out).length ≤ 900 := by
      rw [← tk]
      have z := its_out t
      rw [← List.take_append_drop (0 + i + 1) (its t), List.flatMap_append] at z
      have := congrArg List.length z
      rw [List.length_append] at this
      omega
    rw [List.length_append] at lt
    have isT : isB (tyOf .isTuple) "tuple" = true := by decide
    cases it with
    | st s => exact atom "str" rfl rfl rfl
    | nu n => exact atom "int" rfl rfl rfl
    | tr b => exact atom "bool" rfl rfl rfl
    | tm t2 =>
      obtain ⟨hd2, e2⟩ := pl_its t2
      have oi : okV (pl t2) = true := oi
      rw [e2] at oi
      show evB sgT (callS sgT k) _ [some (.tup (.str hd :: (its t).map It.pv)), some (.ref a), some (pl t2)] h' _
      rw [e2]
      refine sIfB (tAnd (r := true) (tVb (xIsi (t := "tuple") (xV (i := 2) rfl ⟨rfl, true, congrArg PV.bl isT, rfl, ?_⟩))))
      show evT sgT (callS sgT k) _ _ _ _ _
      refine tAnd (r := true) (tC (xV (i := 2) rfl (xTup (aN ⟨by decide, ne_nilT oi ⟨rfl, ?_⟩⟩))))
      show evT sgT (callS sgT k) _ _ _ _ _
      refine tVb (xIsi (t := "str") (xIdx (xV (i := 2) rfl (xI ⟨.str hd2, by show atI _ ((0 : Nat) : Int) = _; rw [atI_nat]; rfl, rfl, false, congrArg PV.bl (by decide : isB (tyOf .isTuple) "str" = false), ?_⟩))))
      refine sIfB (tAnd (r := true) (tVb (xIsi (t := "tuple") (xV (i := 2) rfl ⟨rfl, true, congrArg PV.bl isT, rfl, ?_⟩))))
      show evT sgT (callS sgT k) _ _ _ _ _
      refine tC (xV (i := 2) rfl (xTup (aN ⟨by decide, ne_nilT oi ?_⟩)))
      refine sE_ (xBm (xV (i := 1) rfl ⟨ty_get ea, a1 (xV (i := 2) rfl ⟨_, ea, ?_, ?_⟩)⟩))
      · show _ < 16777216; rw [pls_map, List.length_map]; omega
      have u := Up.of (o := .lst (pls (((its t).take i).flatMap It.out) ++ [.tup (.str hd2 :: (its t2).map It.pv)])) ea
      refine sEnd (G := sgT) (k := k) (sEnd (G := sgT) (k := k) (sEnd (G := sgT) (k := k) ?_))
      exact hK _ _ ⟨_, a, rfl, Gr.up gr u la, by rw [u.at_, tk, pls_map, pls_map, List.map_append, ← e2]; rfl, la⟩
    | tms ts =>
      cases ts with
      | nil =>
        show evB sgT (callS sgT k) _ [some (.tup (.str hd :: (its t).map It.pv)), some (.ref a), some (.tup [])] h' _
        have nn : ∀ {R : Bool → PH → Prop}, R false h' → cmpV .ne (.tup []) (.tup []) h' R := fun z => by
          rw [cmp_ne okV_nil okV_nil]; exact z
        refine sIfB (tAnd (r := true) (tVb (xIsi (t := "tuple") (xV (i := 2) rfl ⟨rfl, true, congrArg PV.bl isT, rfl, ?_⟩))))
        show evT sgT (callS sgT k) _ _ _ _ _
        refine tAnd (r := false) (tC (xV (i := 2) rfl (xTup (aN ⟨by decide, nn ⟨rfl, ?_⟩⟩))))
        refine sIfB (tAnd (r := true) (tVb (xIsi (t := "tuple") (xV (i := 2) rfl ⟨rfl, true, congrArg PV.bl isT, rfl, ?_⟩))))
        show evT sgT (callS sgT k) _ _ _ _ _
        refine tC (xV (i := 2) rfl (xTup (aN ⟨by decide, nn ?_⟩)))
        refine sEnd (G := sgT) (k := k) (sEnd (G := sgT) (k := k) (sEnd (G := sgT) (k := k) ?_))
        exact gen h' _ a gr (by show _ = some (PO.lst (pls (_ ++ []))); rw [List.append_nil]; exact ea) la rfl
      | cons t3 ts =>
        obtain ⟨hd2, e2⟩ := pl_its t3
        have oi : okV (.tup (pl t3 :: pls ts)) = true := oi
        show evB sgT (callS sgT k) _ [some (.tup (.str hd :: (its t).map It.pv)), some (.ref a), some (.tup (pl t3 :: pls ts))] h' _
        refine sIfB (tAnd (r := true) (tVb (xIsi (t := "tuple") (xV (i := 2) rfl ⟨rfl, true, congrArg PV.bl isT, rfl, ?_⟩))))
        show evT sgT (callS sgT k) _ _ _ _ _
        refine tAnd (r := true) (tC (xV (i := 2) rfl (xTup (aN ⟨by decide, ne_nilT oi ⟨rfl, ?_⟩⟩))))
        show evT sgT (callS sgT k) _ _ _ _ _
        refine tVb (xIsi (t := "tuple") (xIdx (xV (i := 2) rfl (xI ⟨pl t3, by show atI _ ((0 : Nat) : Int) = _; rw [atI_nat]; rfl, by rw [e2]; rfl, true, congrArg PV.bl isT, ?_⟩))))
        refine sAs (by show 1 < 3; decide) (xBin (xV (i := 1) rfl (xBf (a1 (xV (i := 2) rfl ⟨_, rfl, ?_⟩)))))
        have N4 := Nw.of (h := h') (o := .lst (pl t3 :: pls ts))
        generalize h' ++ [PO.lst (pl t3 :: pls ts)] = h4 at N4 ⊢
        refine ⟨_, _, N4.get ea, N4.at_, ?_, ?_⟩
        · have lt : (((its t).take i).flatMap It.out).length + (t3 :: ts).length ≤ 900 := lt
          show _ + _ ≤ 16777216
          rw [List.length_cons] at lt ⊢
          rw [pls_map, pls_map, List.length_map, List.length_map]; omega
        have N5 := Nw.of (h := h4) (o := .lst (pls (((its t).take i).flatMap It.out) ++ pl t3 :: pls ts))
        refine sEnd (G := sgT) (k := k) (sEnd (G := sgT) (k := k) ?_)
        exact gen _ _ h4.length (Gr.nw (Gr.nw gr N4) N5) (by rw [N5.at_, pls_map, pls_map, pls_map, List.map_append]; rfl) (by have := N4.len; have := Stays.le gr; omega) rfl
  · obtain ⟨x2, a, rfl, gr, ea, la⟩ := iv
    rw [List.length_map, Nat.zero_add, List.take_length, its_out] at ea
    exact sR (xV (i := 1) rfl (q h' a gr ea la))
end
end Py

set_option Elab.async false
set_option linter.all false
set_option maxRecDepth 100000
set_option maxHeartbeats 4000000
/-! The law's own measures. -/
namespace Py
open PySem
theorem okV_pl {t : Tm} (w : wel t) (d : dep t ≤ 20) : okV (pl t) = true := (fl_pl t w).ok (by omega)
theorem okV_pls {ts : List Tm} (w : wels ts) (d : deps ts ≤ 20) : okV (.tup (pls ts)) = true := (FlP.tup (fl_pls ts w)).ok (by omega)
theorem its_ok {t : Tm} (w : wel t) (d : dep t ≤ 20) : ∀ i ∈ its t, i.ok := by
  intro i m
  cases t with
  | num => simp [its] at m; subst m; trivial
  | tru => simp [its] at m; subst m; trivial
  | nam => simp [its] at m; subst m; trivial
  | slf => simp [its] at m
  | new c ts =>
    simp [its] at m; simp only [dep] at d
    rcases m with rfl | rfl
    · trivial
    · exact okV_pls w.2 (by omega)
  | eld c ts =>
    simp [its] at m; simp only [dep] at d
    rcases m with rfl | rfl
    · trivial
    · exact okV_pls w.2 (by omega)
  | fld t f =>
    simp [its] at m; simp only [dep] at d
    rcases m with rfl | rfl
    · exact okV_pl w.1 (by omega)
    · trivial
  | cal t f ts =>
    simp [its] at m; simp only [dep] at d
    rcases m with rfl | rfl | rfl
    · exact okV_pl w.1 (by omega)
    · trivial
    · exact okV_pls w.2.2 (by omega)
  | nt t => simp [its] at m; simp only [dep] at d; subst m; exact okV_pl w (by omega)
  | two s a b =>
    simp [its] at m; simp only [dep] at d
    rcases m with rfl | rfl | rfl
    · trivial
    · exact okV_pl w.2.1 (by omega)
    · exact okV_pl w.2.2 (by omega)
  | ite a b c =>
    simp [its] at m; simp only [dep] at d
    rcases m with rfl | rfl | rfl
    · exact okV_pl w.1 (by omega)
    · exact okV_pl w.2.1 (by omega)
    · exact okV_pl w.2.2 (by omega)
  | lett x a b =>
    simp [its] at m; simp only [dep] at d
    rcases m with rfl | rfl | rfl
    · trivial
    · exact okV_pl w.2.1 (by omega)
    · exact okV_pl w.2.2 (by omega)
  | sett a f b =>
    simp [its] at m; simp only [dep] at d
    rcases m with rfl | rfl | rfl
    · exact okV_pl w.1 (by omega)
    · trivial
    · exact okV_pl w.2.2 (by omega)
end Py

set_option Elab.async false
set_option linter.all false
set_option maxRecDepth 100000
set_option maxHeartbeats 4000000
/-! How long a term is when shown; the law's own measure. -/
namespace Py
open PySem
/-- a row of flat data, shown in so many signs with their gaps -/
structure Rq (n c : Nat) (xs : List PV) : Prop where
  fl : flats xs = true
  lay : PyData.canLayAll0 (dats xs) = true
  dep : PyData.depthAll (dats xs) ≤ n
  sho : PyData.showableAll (dats xs) = true
  len : ((PyData.shownAll (dats xs)).map (·.length)).sum + 2 * (PyData.shownAll (dats xs)).length ≤ c
theorem Rq.nil {n : Nat} : Rq n 0 [] := ⟨rfl, rfl, Nat.zero_le _, rfl, Nat.le_refl _⟩
theorem Rq.cons {n a b : Nat} {x : PV} {xs : List PV} (r : Rp n a x) (s : Rq n b xs) : Rq n (a + 2 + b) (x :: xs) := by
  refine ⟨by show (flat x && flats xs) = true; rw [r.fl, s.fl]; rfl, by show (PyData.canLay0 _ && PyData.canLayAll0 _) = true; rw [r.lay, s.lay]; rfl, ?_, by show (PyData.showable _ && PyData.showableAll _) = true; rw [r.sho, s.sho]; rfl, ?_⟩
  · show max (PyData.depth (dat x)) (PyData.depthAll (dats xs)) ≤ n
    exact Nat.max_le.mpr ⟨r.dep, s.dep⟩
  · show (PyData.shown (dat x)).length + ((PyData.shownAll (dats xs)).map (·.length)).sum + 2 * ((PyData.shownAll (dats xs)).length + 1) ≤ _
    have := r.len
    have := s.len
    omega
theorem Rq.tup {n c : Nat} {xs : List PV} (s : Rq n c xs) : Rp (n + 1) (c + 3) (.tup xs) := by
  refine ⟨s.fl, s.lay, Nat.succ_le_succ s.dep, s.sho, ?_⟩
  have t := tupleText_len_le (PyData.shownAll (dats xs))
  have := s.len
  show (tupleText (PyData.shownAll (dats xs))).length ≤ _
  omega
theorem Rq.mono {n c n' c' : Nat} {v : List PV} (r : Rq n c v) (h : n ≤ n') (h' : c ≤ c') : Rq n' c' v := ⟨r.fl, r.lay, Nat.le_trans r.dep h, r.sho, Nat.le_trans r.len h'⟩
theorem szT_pos (t : Tm) : 1 ≤ szT t := by cases t <;> simp only [szT] <;> omega
theorem repr_nm {s : Str} (h : okS s) : (reprText s).length ≤ 122 := by
  have h1 : s.cps.all (· < 0x110000) = true := h.1
  have h2 : s.cps.size ≤ 12 := h.2
  have key := StrLaws.reprText_len s (fun c m => by
    have := Array.all_eq_true.mp h1
    obtain ⟨i, hi, rfl⟩ := List.mem_iff_getElem.mp m
    have t := this i (by simpa using hi)
    have t2 := of_decide_eq_true t
    simp only [Array.getElem_toList]
    exact Nat.lt_trans t2 (by decide))
  have h3 : s.length ≤ 12 := h2
  omega
theorem Rp.nm {n : Nat} {s : Str} (h : okS s) : Rp n 122 (.str s) := ⟨rfl, h.1, Nat.zero_le _, rfl, repr_nm h⟩
theorem Rp.li {n : Nat} {s : String} (h : (reprText (Str.ofString s)).length ≤ 20) : Rp n 20 (.str (Str.ofString s)) := ⟨rfl, strOk_lit s, Nat.zero_le _, rfl, h⟩
theorem Rp.in_ {n : Nat} {i : Int} (h : i.natAbs < 10 ^ 20) : Rp n 21 (.int i) := (Rp.int h).mono (Nat.zero_le _) (Nat.le_refl _)
theorem Rp.bo {n : Nat} {b : Bool} : Rp n 5 (.bl b) := Rp.bl.mono (Nat.zero_le _) (Nat.le_refl _)
mutual
theorem rp_pl : ∀ t : Tm, wel t → Rp (2 * dep t + 1) (400 * szT t - 2) (pl t)
  | .num _, h => (Rq.tup (n := 0) (.cons (.li (by decide +kernel)) (.cons (.in_ (by have h1 := h.1; have h2 := h.2; omega)) .nil))).mono (by simp only [dep]; omega) (by simp only [szT]; omega)
  | .tru _, _ => (Rq.tup (n := 0) (.cons (.li (by decide +kernel)) (.cons .bo .nil))).mono (by simp only [dep]; omega) (by simp only [szT]; omega)
  | .nam _, h => (Rq.tup (n := 0) (.cons (.li (by decide +kernel)) (.cons (.nm h) .nil))).mono (by simp only [dep]; omega) (by simp only [szT]; omega)
  | .slf, _ => (Rq.tup (n := 0) (.cons (.li (by decide +kernel)) .nil)).mono (by simp only [dep]; omega) (by simp only [szT]; omega)
  | .new _ ts, h => (Rq.tup (n := 2 * deps ts + 2) (.cons (.li (by decide +kernel)) (.cons (.nm h.1) (.cons (Rq.tup (rq_pls ts h.2)) .nil)))).mono (by simp only [dep]; omega) (by simp only [szT]; omega)
  | .eld _ ts, h => (Rq.tup (n := 2 * deps ts + 2) (.cons (.li (by decide +kernel)) (.cons (.nm h.1) (.cons (Rq.tup (rq_pls ts h.2)) .nil)))).mono (by simp only [dep]; omega) (by simp only [szT]; omega)
  | .fld t _, h => (Rq.tup (.cons (.li (by decide +kernel)) (.cons (rp_pl t h.1) (.cons (.nm h.2) .nil)))).mono (by simp only [dep]; omega) (by simp only [szT]; omega)
  | .cal t _ ts, h => (Rq.tup (n := 2 * max (dep t) (deps ts) + 2) (.cons (.li (by decide +kernel)) (.cons ((rp_pl t h.1).mono (by omega) (Nat.le_refl _)) (.cons (.nm h.2.1) (.cons ((Rq.tup (rq_pls ts h.2.2)).mono (by omega) (Nat.le_refl _)) .nil))))).mono (by simp only [dep]; omega) (by simp only [szT]; omega)
  | .nt t, h => (Rq.tup (.cons (.li (by decide +kernel)) (.cons (rp_pl t h) .nil))).mono (by simp only [dep]; omega) (by simp only [szT]; omega)
  | .two _ a b, h => (Rq.tup (n := 2 * max (dep a) (dep b) + 1) (.cons (.li (by decide +kernel)) (.cons (.nm h.1) (.cons ((rp_pl a h.2.1).mono (by omega) (Nat.le_refl _)) (.cons ((rp_pl b h.2.2).mono (by omega) (Nat.le_refl _)) .nil))))).mono (by simp only [dep]; omega) (by simp only [szT]; omega)
  | .ite a b c, h => (Rq.tup (n := 2 * max (dep a) (max (dep b) (dep c)) + 1) (.cons (.li (by decide +kernel)) (.cons ((rp_pl a h.1).mono (by omega) (Nat.le_refl _)) (.cons ((rp_pl b h.2.1).mono (by omega) (Nat.le_refl _)) (.cons ((rp_pl c h.2.2).mono (by omega) (Nat.le_refl _)) .nil))))).mono (by simp only [dep]; omega) (by simp only [szT]; omega)
  | .lett _ a b, h => (Rq.tup (n := 2 * max (dep a) (dep b) + 1) (.cons (.li (by decide +kernel)) (.cons (.nm h.1) (.cons ((rp_pl a h.2.1).mono (by omega) (Nat.le_refl _)) (.cons ((rp_pl b h.2.2).mono (by omega) (Nat.le_refl _)) .nil))))).mono (by simp only [dep]; omega) (by simp only [szT]; omega)
  | .sett a _ b, h => (Rq.tup (n := 2 * max (dep a) (dep b) + 1) (.cons (.li (by decide +kernel)) (.cons ((rp_pl a h.1).mono (by omega) (Nat.le_refl _)) (.cons (.nm h.2.1) (.cons ((rp_pl b h.2.2).mono (by omega) (Nat.le_refl _)) .nil))))).mono (by simp only [dep]; omega) (by simp only [szT]; omega)
theorem rq_pls : ∀ ts : List Tm, wels ts → Rq (2 * deps ts + 1) (400 * szTs ts) (pls ts)
  | [], _ => .nil
  | t :: ts, h => by
    have r := Rq.cons ((rp_pl t h.1).mono (n' := 2 * deps (t :: ts) + 1) (by simp only [deps]; omega) (Nat.le_refl _)) (Rq.mono (rq_pls ts h.2) (n' := 2 * deps (t :: ts) + 1) (by simp only [deps]; omega) (Nat.le_refl _))
    have p := szT_pos t
    exact r.mono (Nat.le_refl _) (by simp only [szTs]; omega)
end
/-! what holds of the parts -/
theorem parts_dep {t u : Tm} (m : u ∈ parts t) : dep u + 1 ≤ dep t := by
  cases t <;> simp only [parts, List.mem_cons, List.not_mem_nil, or_false] at m <;> simp only [dep]
  case new => have := deps_le m; omega
  case eld => have := deps_le m; omega
  case fld => subst m; omega
  case cal =>
    rcases m with rfl | m
    · omega
    · have := deps_le m; omega
  case nt => subst m; omega
  case two => rcases m with rfl | rfl <;> omega
  case ite => rcases m with rfl | rfl | rfl <;> omega
  case lett => rcases m with rfl | rfl <;> omega
  case sett => rcases m with rfl | rfl <;> omega
theorem wels_at : ∀ {ts : List Tm}, wels ts → ∀ u ∈ ts, wel u
  | t :: ts, h, u, m => by
    rcases List.mem_cons.mp m with rfl | m
    · exact h.1
    · exact wels_at h.2 u m
theorem parts_wel {t u : Tm} (w : wel t) (m : u ∈ parts t) : wel u := by
  cases t <;> simp only [parts, List.mem_cons, List.not_mem_nil, or_false] at m
  case new => exact wels_at w.2 u m
  case eld => exact wels_at w.2 u m
  case fld => subst m; exact w.1
  case cal =>
    rcases m with rfl | m
    · exact w.1
    · exact wels_at w.2.2 u m
  case nt => subst m; exact w
  case two =>
    rcases m with rfl | rfl
    · exact w.2.1
    · exact w.2.2
  case ite =>
    rcases m with rfl | rfl | rfl
    · exact w.1
    · exact w.2.1
    · exact w.2.2
  case lett =>
    rcases m with rfl | rfl
    · exact w.2.1
    · exact w.2.2
  case sett =>
    rcases m with rfl | rfl
    · exact w.1
    · exact w.2.2
theorem sz_parts : ∀ t : Tm, szT t = 1 + szTs (parts t)
  | .num _ => rfl
  | .tru _ => rfl
  | .nam _ => rfl
  | .slf => rfl
  | .new _ _ => rfl
  | .eld _ _ => rfl
  | .fld _ _ => rfl
  | .cal _ _ _ => by simp only [szT, parts, szTs]; omega
  | .nt _ => rfl
  | .two _ _ _ => by simp only [szT, parts, szTs]; omega
  | .ite _ _ _ => by simp only [szT, parts, szTs]; omega
  | .lett _ _ _ => by simp only [szT, parts, szTs]; omega
  | .sett _ _ _ => by simp only [szT, parts, szTs]; omega
theorem szTs_le : ∀ {ts : List Tm} {t : Tm}, t ∈ ts → szT t ≤ szTs ts
  | u :: ts, t, m => by
    show szT t ≤ szT u + szTs ts
    rcases List.mem_cons.mp m with rfl | m
    · omega
    · have := szTs_le m; omega
theorem szTs_len : ∀ ts : List Tm, ts.length ≤ szTs ts
  | [] => Nat.le_refl _
  | t :: ts => by
    have := szTs_len ts
    have := szT_pos t
    show ts.length + 1 ≤ szT t + szTs ts
    omega
theorem wels_of : ∀ {ts : List Tm}, (∀ u ∈ ts, wel u) → wels ts
  | [], _ => trivial
  | t :: ts, h => ⟨h t (List.mem_cons_self ..), wels_of fun u m => h u (List.mem_cons_of_mem _ m)⟩
theorem deps_of {n : Nat} : ∀ {ts : List Tm}, (∀ u ∈ ts, dep u ≤ n) → deps ts ≤ n
  | [], _ => Nat.zero_le _
  | t :: ts, h => Nat.max_le.mpr ⟨h t (List.mem_cons_self ..), deps_of fun u m => h u (List.mem_cons_of_mem _ m)⟩
mutual
theorem fit_sz : ∀ t : Tm, szT t ≤ 900 → fit t
  | .num _, _ => trivial
  | .tru _, _ => trivial
  | .nam _, _ => trivial
  | .slf, _ => trivial
  | .new _ ts, h => by simp only [szT] at h; have := szTs_len ts; exact ⟨by omega, fits_sz ts (by omega)⟩
  | .eld _ ts, h => by simp only [szT] at h; have := szTs_len ts; exact ⟨by omega, fits_sz ts (by omega)⟩
  | .fld t _, h => by simp only [szT] at h; exact fit_sz t (by omega)
  | .cal t _ ts, h => by simp only [szT] at h; have := szTs_len ts; exact ⟨by omega, fit_sz t (by omega), fits_sz ts (by omega)⟩
  | .nt t, h => by simp only [szT] at h; exact fit_sz t (by omega)
  | .two _ a b, h => by simp only [szT] at h; exact ⟨fit_sz a (by omega), fit_sz b (by omega)⟩
  | .ite a b c, h => by simp only [szT] at h; exact ⟨fit_sz a (by omega), fit_sz b (by omega), fit_sz c (by omega)⟩
  | .lett _ a b, h => by simp only [szT] at h; exact ⟨fit_sz a (by omega), fit_sz b (by omega)⟩
  | .sett a _ b, h => by simp only [szT] at h; exact ⟨fit_sz a (by omega), fit_sz b (by omega)⟩
theorem fits_sz : ∀ ts : List Tm, szTs ts ≤ 900 → fits ts
  | [], _ => trivial
  | t :: ts, h => by simp only [szTs] at h; exact ⟨fit_sz t (by omega), fits_sz ts (by omega)⟩
end
/-- a term as the law draws it -/
structure Dr (t : Tm) : Prop where
  w : wel t
  d : dep t ≤ 14
  s : szT t ≤ 60
theorem Dr.part {t u : Tm} (a : Dr t) (m : u ∈ parts t) : Dr u := ⟨parts_wel a.w m, by have := parts_dep m; have := a.d; omega, by have := szTs_le m; have := sz_parts t; have := a.s; omega⟩
theorem Dr.len {t : Tm} (a : Dr t) : (parts t).length ≤ 59 := by have := szTs_len (parts t); have := sz_parts t; have := a.s; omega
theorem Dr.ok {t : Tm} (a : Dr t) : okV (pl t) = true := okV_pl a.w (by have := a.d; omega)
theorem s_lpart {k : Nat} {h : PH} {Q : KQ} {X : KX} {t : Tm} (a : Dr t) (q : ∀ h' b, Gr h h' → h'[b]? = some (.lst (pls (parts t))) → h.length ≤ b → Q (.ref b) h') : callS sgT (k + 1) (.fn n__law_parts) [pl t] h Q X :=
  s_lparts (its_ok a.w (by have := a.d; omega)) (by have := a.len; omega) q
def rowOf (t : Tm) : PV := .tup [.int (hgt t : Nat), .int (szT t : Nat)]
section
variable {k : Nat} {h : PH} {Q : KQ} {X : KX} {l : Loc}
/-- a number of each row -/
theorem c_rows {i : Nat} {f : Tm → Nat} {ts : List Tm} {b : Nat} (hi : ∀ t, atI [PV.int (hgt t : Nat), .int (szT t : Nat)] ((i : Nat) : Int) = some (.int (f t : Nat))) (hz : ts.length ≤ 900) (l1 : l[1]? = some (some (.ref b))) (hl : l.length = 4) (e : h[b]? = some (.lst (ts.map rowOf)))
    (q : ∀ h', Gr h h' → h'[h.length]? = some (.lst ((ts.map fun t => ((f t : Nat) : Int)).map .int)) → Q (.ref h.length) h') :
    evE sgT (callS sgT k) X (.lc (.idx (.var 3) (.int (i : Nat))) (.nm 3) (.seq (.var 1)) .no) l h Q := by
  refine xLc (by omega) (iSeq (xV l1 ⟨lst_got e, fun h2 N => ?_⟩))
  refine comp_inv (fun j acc h' => Gr h h' ∧ acc = ((ts.take j).map fun t => ((f t : Nat) : Int)).map .int) (fun _ _ _ iv => lst_got (Gr.get iv.1 e)) _ 0 [] h2 ⟨N.gr, rfl⟩ N.at_ (by show 0 + _ ≤ 16777216; rw [List.length_map]; omega) (fun j x acc h' K ex iv ea c1 _ => ?_) fun acc h' iv ea => ?_
  · obtain ⟨gr, rfl⟩ := iv
    rw [List.getElem?_map] at ex
    obtain ⟨t, et, rfl⟩ := Option.map_eq_some_iff.mp ex
    refine xIdx (xV (i := 3) (v := rowOf t) (by rw [List.getElem?_set_self (by simp; omega)]) (xI ⟨_, hi t, ?_⟩))
    refine c1 _ _ ea fun h4 u => ⟨Gr.up gr u (Nat.le_refl _), ?_⟩
    rw [show ts.take (0 + j + 1) = ts.take (0 + j) ++ [t] by rw [Nat.zero_add, List.take_succ, et]; rfl, List.map_append, List.map_append]
    rfl
  · obtain ⟨gr, rfl⟩ := iv
    rw [List.length_map, Nat.zero_add, List.take_length] at ea
    exact q h' gr ea
theorem maxI_hts : ∀ (ts : List Tm) {m : Int}, m ∈ (ts.map fun t => ((hgt t : Nat) : Int)) ++ [0] → (∀ y ∈ (ts.map fun t => ((hgt t : Nat) : Int)) ++ [0], y ≤ m) → m = (hgts ts : Nat) := by
  intro ts m h1 h2
  have up : ∀ (ts : List Tm), ∀ y ∈ ts.map (fun t => ((hgt t : Nat) : Int)), y ≤ (hgts ts : Nat) := by
    intro ts
    induction ts with
    | nil => intro y m; cases m
    | cons t ts ih =>
      intro y m
      have e : hgts (t :: ts) = max (hgt t) (hgts ts) := rfl
      rcases List.mem_cons.mp m with rfl | m
      · show ((hgt t : Nat) : Int) ≤ _; omega
      · have := ih y m; omega
  have at_ : ∀ (ts : List Tm), hgts ts = 0 ∨ ((hgts ts : Nat) : Int) ∈ ts.map (fun t => ((hgt t : Nat) : Int)) := by
    intro ts
    induction ts with
    | nil => exact .inl rfl
    | cons t ts ih =>
      have e : hgts (t :: ts) = max (hgt t) (hgts ts) := rfl
      by_cases z : hgts ts ≤ hgt t
      · refine .inr ?_
        rw [e, Nat.max_eq_left z]
        exact List.mem_cons_self ..
      · rw [e, Nat.max_eq_right (by omega)]
        rcases ih with ih | ih
        · exact .inl ih
        · exact .inr (List.mem_cons_of_mem _ ih)
  have a : m ≤ (hgts ts : Nat) := by
    rcases List.mem_append.mp h1 with h1 | h1
    · exact up ts m h1
    · cases List.mem_singleton.mp h1; omega
  have b : ((hgts ts : Nat) : Int) ≤ m := by
    rcases at_ ts with d | d
    · rw [d]; exact h2 0 (by simp)
    · exact h2 _ (List.mem_append_left _ d)
  omega
theorem sumI_sz : ∀ ts : List Tm, (ts.map fun t => ((szT t : Nat) : Int)).sum = (szTs ts : Nat)
  | [] => rfl
  | t :: ts => by
    have := sumI_sz ts
    rw [List.map_cons, List.sum_cons, this]
    show _ = ((szT t + szTs ts : Nat) : Int)
    omega
end
theorem s_measured : ∀ (n : Nat) (t : Tm), dep t ≤ n → Dr t → ∀ {k : Nat} {h : PH} {Q : KQ} {X : KX}, n + 2 ≤ k → (∀ h', Gr h h' → Q (rowOf t) h') → callS sgT k (.fn n__law_measured) [pl t] h Q X := by
  intro n
  induction n with
  | zero =>
    intro t hd a k h Q X hk q
    obtain ⟨k, rfl⟩ : ∃ j, k = j + 2 := ⟨k - 2, by omega⟩
    have np : parts t = [] := by
      cases e : parts t with
      | nil => rfl
      | cons u r => have := parts_dep (t := t) (u := u) (by rw [e]; exact List.mem_cons_self ..); omega
    refine xFn (d := d__law_measured) rfl rfl ?_
    refine sAs (by show 1 < 4; decide) (xLc (by show 2 < 4; decide) (iSeq (xCall (a1 (xV (i := 0) rfl (s_lpart a fun h1 b g1 e1 lb => ⟨lst_got e1, fun h2 N2 => ?_⟩))))))
    rw [np] at e1 ⊢
    have e2 := N2.at_
    refine ⟨lst_got (N2.get e1), ?_⟩
    refine sR (xTup (aC (xBin (xI (xBf (a1 (xBin (c_rows (ts := []) (i := 0) (f := hgt) (fun t => rfl) (Nat.zero_le _) rfl rfl e2 fun h3 g3 e3 => ?_))))))))
    refine xLst (a1 (xI ⟨by decide, fun h4 N4 => ⟨_, _, N4.get e3, N4.at_, by decide, [0], 0, lstOf_new, by simp, by simp, ?_⟩⟩))
    show evEs sgT (callS sgT (k + 1)) _ _ _ _ _
    refine a1 (xBin (xI (xBf (a1 (c_rows (ts := []) (i := 1) (f := szT) (fun t => rfl) (Nat.zero_le _) rfl rfl (get_app (N4.get (g3.get e2))) fun h5 g5 e5 => ⟨[], lst_got e5, lz2, ?_⟩)))))
    have e6 : rowOf t = .tup [.int (1 + 0), .int (1 + [].sum)] := by
      unfold rowOf
      rw [ht_parts t, sz_parts t, np]; rfl
    rw [← e6]
    exact q _ (Stays.trans (Gr.nw (Stays.trans (Gr.nw g1 N2) g3) N4) (Stays.trans (Nw.gr Nw.of) g5))
  | succ n ih =>
    intro t hd a k h Q X hk q
    obtain ⟨k, rfl⟩ : ∃ j, k = j + 2 := ⟨k - 2, by omega⟩
    refine xFn (d := d__law_measured) rfl rfl ?_
    have la := a.len
    refine sAs (by show 1 < 4; decide) (xLc (by show 2 < 4; decide) (iSeq (xCall (a1 (xV (i := 0) rfl (s_lpart a fun h1 b g1 e1 lb => ⟨lst_got e1, fun h2 N2 => ?_⟩))))))
    refine comp_inv (fun j acc h' => Gr h1 h' ∧ acc = ((parts t).take j).map rowOf) (fun _ _ _ iv => lst_got (Gr.get iv.1 e1)) _ 0 [] h2 ⟨N2.gr, rfl⟩ N2.at_ (by show 0 + _ ≤ 16777216; rw [pls_map, List.length_map]; omega) (fun j x acc h' K ex iv ea c1 _ => ?_) fun acc h' iv ea => ?_
    · obtain ⟨gr, rfl⟩ := iv
      rw [pls_map, List.getElem?_map] at ex
      obtain ⟨u, eu, rfl⟩ := Option.map_eq_some_iff.mp ex
      have mu := List.mem_of_getElem? eu
      have pd := parts_dep mu
      refine xCall (a1 (xV (i := 2) rfl (ih u (by omega) (a.part mu) (by omega) fun h3 g3 => ?_)))
      refine c1 _ _ (g3.get ea) fun h4 u4 => ⟨Gr.up (gr.trans g3) u4 (Nat.le_refl _), ?_⟩
      rw [show (parts t).take (0 + j + 1) = (parts t).take (0 + j) ++ [u] by rw [Nat.zero_add, List.take_succ, eu]; rfl, List.map_append]
      rfl
    · obtain ⟨gr, rfl⟩ := iv
      rw [pls_map, List.length_map, Nat.zero_add, List.take_length] at ea
      refine sR (xTup (aC (xBin (xI (xBf (a1 (xBin (c_rows (ts := parts t) (i := 0) (f := hgt) (fun t => rfl) (by omega) rfl rfl ea fun h3 g3 e3 => ?_))))))))
      refine xLst (a1 (xI ⟨by decide, fun h4 N4 => ?_⟩))
      refine ⟨_, _, N4.get e3, N4.at_, by show _ + 1 ≤ 16777216; rw [List.length_map, List.length_map]; omega, ?_⟩
      obtain ⟨m, hm1, hm2⟩ := max_of ((parts t).map fun t => ((hgt t : Nat) : Int))
      refine ⟨((parts t).map fun t => ((hgt t : Nat) : Int)) ++ [0], m, ?_, hm1, hm2, ?_⟩
      · rw [List.map_append]; exact lstOf_new
      show evEs sgT (callS sgT (k + 1)) _ _ _ _ _
      refine a1 (xBin (xI (xBf (a1 (c_rows (ts := parts t) (i := 1) (f := szT) (fun t => rfl) (by omega) rfl rfl (get_app (N4.get (g3.get ea))) fun h5 g5 e5 => ⟨_, lst_got e5, lz2, ?_⟩)))))
      have e6 : rowOf t = .tup [.int (1 + m), .int (1 + ((parts t).map fun t => ((szT t : Nat) : Int)).sum)] := by
        unfold rowOf
        rw [ht_parts t, sz_parts t, maxI_hts _ hm1 hm2, sumI_sz]
        simp
      rw [← e6]
      exact q _ (Stays.trans (Gr.nw (Stays.trans (Stays.trans g1 gr) g3) N4) (Stays.trans (Nw.gr Nw.of) g5))
end Py

set_option Elab.async false
set_option linter.all false
set_option maxRecDepth 100000
set_option maxHeartbeats 4000000
/-! A name. -/
namespace Py
open PySem
theorem frl_got {h : PH} {a : Nat} {xs : List PV} (e : h[a]? = some (.frl xs)) : lstOf h (.ref a) = some xs := by unfold lstOf; dsimp only; rw [e]
theorem rangeL_at {n i : Nat} {x : PV} (e : (rangeL 0 n)[i]? = some x) : i < n ∧ x = .int (i : Nat) := by
  unfold rangeL at e
  rw [List.getElem?_map] at e
  obtain ⟨j, ej, rfl⟩ := Option.map_eq_some_iff.mp e
  obtain ⟨h1, h2⟩ := List.getElem?_eq_some_iff.mp ej
  rw [List.getElem_range] at h2
  subst h2
  exact ⟨by simpa using h1, by rw [Int.zero_add]⟩
theorem rangeL_len {n : Nat} {i : Int} : (rangeL i n).length = n := by unfold rangeL; simp
theorem lz0 : ([] : List PV).length ≤ SZ := by show 0 ≤ 16777216; decide
theorem fmn (x : Int) {n : Int} (hn : 0 < n) : ∃ a : Nat, x.fmod n = (a : Nat) ∧ (a : Int) < n := by
  have b1 : 0 ≤ x.fmod n := by rw [Int.fmod_eq_emod_of_nonneg _ (by omega)]; exact Int.emod_nonneg _ (by omega)
  have b2 : x.fmod n < n := by rw [Int.fmod_eq_emod_of_nonneg _ (by omega)]; exact Int.emod_lt_of_pos _ hn
  exact ⟨(x.fmod n).toNat, by omega, by omega⟩
theorem fdn {a : Nat} {n : Int} (hn : 0 < n) : ∃ b : Nat, (a : Int).fdiv n = (b : Nat) := by
  have : 0 ≤ (a : Int).fdiv n := by rw [Int.fdiv_eq_ediv_of_nonneg _ (by omega)]; exact Int.ediv_nonneg (by omega) (by omega)
  exact ⟨((a : Int).fdiv n).toNat, by omega⟩
section
variable {k : Nat} {h : PH} {Q : KQ} {X : KX} {l : Loc}
theorem iR1 {a : E} {R : KI} {j : Int} (b : -(2 ^ 62) ≤ j ∧ j < 2 ^ 62) (q : evE sgT (callS sgT k) X a l h fun x h1 => x = .int j ∧ R (rangeL 0 j.toNat) (fun _ => True) h1) : evI sgT (callS sgT k) X (.rng1 a) l h R := by
  show evE sgT (callS sgT k) X a l h _
  exact mE_ q fun x h1 z => ⟨j, z.1, b, z.2⟩
theorem iAdd {i j : Int} (q : Q (.int (i + j)) h) : binV .add (.int i) (.int j) h Q := q
theorem iSub {i j : Int} (q : Q (.int (i - j)) h) : binV .sub (.int i) (.int j) h Q := q
theorem iMul {i j : Int} (ok : mulOk i j) (q : Q (.int (i * j)) h) : binV .mul (.int i) (.int j) h Q := ⟨ok, q⟩
theorem iDiv {i j : Int} (n : j ≠ 0) (l : j.natAbs.log2 < 9000) (q : Q (.int (i.fdiv j)) h) : binV .fdiv (.int i) (.int j) h Q := ⟨n, l, q⟩
theorem iMod {i j : Int} (n : j ≠ 0) (q : Q (.int (i.fmod j)) h) : binV .mod (.int i) (.int j) h Q := ⟨n, q⟩
end
def mkN (cs : List Nat) : Str := ⟨cs.toArray⟩
theorem mkN_add {a b : List Nat} : mkN a ++ mkN b = mkN (a ++ b) := by
  show (⟨a.toArray ++ b.toArray⟩ : Str) = ⟨(a ++ b).toArray⟩
  simp
theorem mkN_len {a : List Nat} : (mkN a).length = a.length := by
  show a.toArray.size = _
  simp
theorem join_mk : ∀ (l : List Nat), Txt.join (Str.ofString "") (l.map fun c => mkN [c]) = mkN l := by
  intro l
  show Builtin.Str.glued _ _ = _
  rw [StrLaws.glued_eq_join]
  induction l with
  | nil => rfl
  | cons a r ih =>
    cases r with
    | nil => rfl
    | cons b r =>
      show mkN [a] ++ Str.ofString "" ++ Str.join (Str.ofString "") ((b :: r).map fun c => mkN [c]) = mkN (a :: b :: r)
      rw [ih, show Str.ofString "" = mkN [] by decide +kernel, mkN_add, mkN_add]
      rfl
/-- a text of at most n signs -/
def okL (n : Nat) (s : Str) : Prop := PyData.strOk s = true ∧ s.length ≤ n
theorem okL.mono {n m : Nat} {s : Str} (a : okL n s) (h : n ≤ m) : okL m s := ⟨a.1, Nat.le_trans a.2 h⟩
theorem okL.add {n m : Nat} {s t : Str} (a : okL n s) (b : okL m t) : okL (n + m) (s ++ t) := by
  have a1 : s.cps.all (· < 0x110000) = true := a.1
  have b1 : t.cps.all (· < 0x110000) = true := b.1
  refine ⟨?_, ?_⟩
  · show (s.cps ++ t.cps).all (· < 0x110000) = true
    rw [Array.all_append, a1, b1]; rfl
  · show (s.cps ++ t.cps).size ≤ n + m
    rw [Array.size_append]
    have a2 : s.cps.size ≤ n := a.2
    have b2 : t.cps.size ≤ m := b.2
    omega
theorem okL.mk {n : Nat} {cs : List Nat} (h : ∀ c ∈ cs, c < 128) (l : cs.length ≤ n) : okL n (mkN cs) := by
  refine ⟨?_, by rw [mkN_len]; exact l⟩
  show cs.toArray.all (· < 0x110000) = true
  rw [List.all_toArray, List.all_eq_true]
  intro x m
  have := h x m
  exact decide_eq_true (by omega)
abbrev abc : Str := Str.ofString "abcdefghijklmnopqrstuvwxyz0123456789"
abbrev tldT : Str := Str.ofString "house of has can main let in if then else new self elder set not yes no number truth"
theorem abc_at {i : Nat} (h : i < 36) : ∃ c, c < 128 ∧ atI abc.cps.toList ((i : Nat) : Int) = some c := by
  have : (List.range 36).all (fun i => match abc.cps.toList[i]? with | some c => decide (c < 128) | none => false) = true := by decide +kernel
  have z := List.all_eq_true.mp this i (List.mem_range.mpr h)
  rw [atI_nat]
  cases e : abc.cps.toList[i]? with
  | none => rw [e] at z; cases z
  | some c => rw [e] at z; exact ⟨c, of_decide_eq_true z, rfl⟩
theorem cut_len {α : Type} {xs : List α} {lo hi : Option Int} : (cut xs lo hi).length ≤ xs.length := by
  unfold cut
  rw [List.length_take, List.length_drop]; omega
theorem cut_map {α β : Type} {xs : List α} {f : α → β} {lo hi : Option Int} : cut (xs.map f) lo hi = (cut xs lo hi).map f := by
  unfold cut
  rw [List.length_map, List.map_take, List.map_drop]
theorem cut_mem {α : Type} {xs : List α} {lo hi : Option Int} {x : α} (m : x ∈ cut xs lo hi) : x ∈ xs := List.mem_of_mem_drop (List.mem_of_mem_take m)
def chs (cs : List Nat) : List PV := cs.map fun c => .str (mkN [c])
theorem tld_ok : ((Txt.split tldT (Str.ofString " ")).length = 19 ∧ ∀ s ∈ Txt.split tldT (Str.ofString " "), okL 6 s) := by
  have h1 : (Txt.split tldT (Str.ofString " ")).length = 19 := by decide +kernel
  have h2 : (Txt.split tldT (Str.ofString " ")).all (fun s => PyData.strOk s && decide (s.length ≤ 6)) = true := by decide +kernel
  refine ⟨h1, fun s m => ?_⟩
  have := List.all_eq_true.mp h2 s m
  obtain ⟨a, b⟩ := Bool.and_eq_true_iff.mp this
  exact ⟨a, of_decide_eq_true b⟩
section
variable {k : Nat} {h : PH} {Q : KQ} {X : KX} {l : Loc}
/-- a sign of the alphabet, at a number below n -/
theorem x_abc {i j : Int} {n : Int} (hn : 0 < n) (hn2 : n ≤ 36) (q : ∀ c, c < 128 → Q (.str (mkN [c])) h) : binV .mod (.int i) (.int n) h fun y h2 => idxV (.str abc) y h2 Q := by
  obtain ⟨m, hm, lm⟩ := fmn i hn
  refine iMod (by omega) ?_
  rw [hm]
  obtain ⟨c, hc, e⟩ := abc_at (i := m) (by omega)
  exact ⟨by decide +kernel, c, e, q c hc⟩
/-- signs joined -/
theorem x_join {a : Nat} {cs : List Nat} (e : h[a]? = some (.lst (chs cs))) (hz : cs.length ≤ 100) (q : Q (.str (mkN cs)) h) : bmV .join (.str (Str.ofString "")) [.ref a] h Q := by
  refine ⟨cs.map fun c => mkN [c], by rw [List.map_map]; exact lst_got e, ?_, ?_⟩
  · have e1 : ∀ v : List Nat, ((v.map fun c => mkN [c]).map (·.length)).sum ≤ 1 * v.length := by
      intro v
      induction v with
      | nil => exact Nat.le_refl _
      | cons x v ih => simp only [List.map_cons, List.sum_cons, List.length_cons]; have : (mkN [x]).length = 1 := mkN_len; omega
    have := e1 cs
    have e2 : (Str.ofString "").length = 0 := by decide +kernel
    rw [e2]; omega
  · rw [join_mk]; exact q
theorem s_name {i : Nat} {c : Int} (hi : i < 12) (q : ∀ h' s, Gr h h' → okS s → Q (.str s) h') : callS sgT (k + 1) (.fn n__law_name) [.int (i : Nat), .int c] h Q X := by
  refine xFn (d := d__law_name) rfl rfl ?_
  refine sAs (by show 2 < 11; decide) (xS ?_)
  refine sAs (by show 3 < 11; decide) (xBm (xS ⟨rfl, a1 (xS ⟨by decide +kernel, by decide +kernel, ?_⟩)⟩))
  have N1 := Nw.of (h := h) (o := .lst ((Txt.split tldT (Str.ofString " ")).map PV.str))
  obtain ⟨tl, tw⟩ := tld_ok
  generalize Txt.split tldT (Str.ofString " ") = T at N1 tl tw ⊢
  generalize h ++ [PO.lst (T.map PV.str)] = h1 at N1 ⊢
  have hfl : (T.map PV.str).all flP = true := by
    rw [List.all_eq_true]; intro x mx; obtain ⟨y, _, rfl⟩ := List.mem_map.mp mx; rfl
  -- the row of signs
  refine sAs (by show 4 < 11; decide) (xLc (by show 10 < 11; decide) (iR1 (j := 8) (by decide) (xI ⟨rfl, fun h2 N2 => ?_⟩)))
  refine comp_inv (fun j acc h' => Gr h1 h' ∧ ∃ cs : List Nat, acc = chs cs ∧ cs.length = j ∧ ∀ x ∈ cs, x < 128) (fun _ _ _ _ => trivial) _ 0 [] h2 ⟨N2.gr, [], rfl, rfl, nofun⟩ N2.at_ (by show 0 + _ ≤ 16777216; rw [rangeL_len]; decide) (fun j x acc h' K ex iv ea c1 _ => ?_) fun acc h' iv ea => ?_
  · obtain ⟨gr, cs, rfl, lc, hc⟩ := iv
    obtain ⟨lj, rfl⟩ := rangeL_at ex
    refine xIdx (xV (i := 2) rfl (xBin (xBin (xBin (xV (i := 1) rfl (xI (iDiv (by decide) (by decide) (xBin (xI (xV (i := 10) rfl (iMul (.inl (by omega)) (iAdd (xI (x_abc (j := 0) (by omega) (by omega) fun m hm => ?_))))))))))))))
    refine c1 _ _ ea fun h4 u => ⟨Gr.up gr u (Nat.le_refl _), cs ++ [m], by simp [chs], by simp; omega, fun x mx => ?_⟩
    rcases List.mem_append.mp mx with mx | mx
    · exact hc x mx
    · rw [List.mem_singleton.mp mx]; exact hm
  obtain ⟨gr, cs, rfl, lc, hc⟩ := iv
  rw [rangeL_len] at lc
  have lc : cs.length = 8 := by rw [lc]; rfl
  rw [show h1.length = h1.length from rfl] at ea
  obtain ⟨s8, hs8, ls8⟩ := fmn (c.fdiv 5) (n := 8) (by omega)
  refine sAs (by show 5 < 11; decide) (xBin (xI (xBin (xBin (xV (i := 1) rfl (xI (iDiv (by decide) (by decide) (xI (iMod (by decide) (iAdd ?_))))))))))
  rw [hs8, show (1 : Int) + ((s8 : Nat) : Int) = ((1 + s8 : Nat) : Int) by omega]
  obtain ⟨a40, ha40, la40⟩ := fmn (c.fdiv 40) (n := ((1 + s8 : Nat) : Int)) (by omega)
  obtain ⟨cm, hcm, lcm⟩ := fmn c (n := 3) (by omega)
  have hat : ∃ at_ : Nat, at_ < 1 + s8 ∧ atI [PV.int (a40 : Nat), .int 0, .int (((1 + s8 : Nat) : Int) - 1)] ((cm : Nat) : Int) = some (.int (at_ : Nat)) := by
    rw [atI_nat]
    match cm, lcm with
    | 0, _ => exact ⟨a40, by omega, rfl⟩
    | 1, _ => exact ⟨0, by omega, rfl⟩
    | 2, _ => exact ⟨s8, by omega, by show some (PV.int (((1 + s8 : Nat) : Int) - 1)) = some (PV.int ((s8 : Nat) : Int)); rw [show ((1 + s8 : Nat) : Int) - 1 = ((s8 : Nat) : Int) by omega]⟩
  obtain ⟨at_, hat1, hat2⟩ := hat
  refine sAs (by show 6 < 11; decide) (xIdx (xLst ?_))
  refine aC (xBin (xBin (xV (i := 1) rfl (xI (iDiv (by decide) (by decide) (xV (i := 5) rfl (iMod (by omega) ?_)))))))
  refine aC (xI (a1 (xBin (xV (i := 5) rfl (xI (iSub ⟨by show 3 ≤ 16777216; decide, fun h3 N3 => ?_⟩))))))
  rw [ha40] at N3
  refine xBin (xV (i := 1) rfl (xI (iMod (by decide) ?_)))
  rw [hcm]
  refine ⟨_, _, lst_got N3.at_, hat2, ?_⟩
  have e3 : h3[h1.length]? = some (.lst (chs cs)) := N3.get ea
  -- one sign put for
  refine sSub (xIdx (xV (i := 2) rfl (xBin (xBin (xBin (xV (i := 1) rfl (xI (iDiv (by decide) (by decide) (xV (i := 0) rfl (iAdd (xI (x_abc (j := 0) (by omega) (by omega) fun m hm => ?_))))))))))))
  refine xV (i := 4) rfl (xV (i := 6) rfl ?_)
  show putV _ _ _ _ _
  unfold putV
  dsimp only
  rw [e3]
  refine ⟨_, at_, rfl, by unfold ixN; rw [if_pos (by omega), if_pos (by show _ < ((List.map _ cs).length : Int); rw [List.length_map]; omega)]; simp, ?_⟩
  have u := Up.of (o := .lst ((chs cs).set at_ (.str (mkN [m])))) e3
  generalize h3.set h1.length (PO.lst ((chs cs).set at_ (PV.str (mkN [m])))) = h4 at u ⊢
  have e4 : h4[h1.length]? = some (.lst (chs (cs.set at_ m))) := by rw [u.at_]; unfold chs; rw [List.map_set]
  have hc4 : ∀ x ∈ cs.set at_ m, x < 128 := fun x mx => by
    rcases List.mem_or_eq_of_mem_set mx with mx | rfl
    · exact hc x mx
    · exact hm
  have lc4 : (cs.set at_ m).length = 8 := by rw [List.length_set]; exact lc
  generalize cs.set at_ m = ds at e4 hc4 lc4
  have l1 : h.length < h1.length := by have := N1.len; omega
  have g4 : Gr h h4 := Gr.up (Gr.nw (Stays.trans N1.gr gr) N3) u (by omega)
  have eT : h4[h.length]? = some (.lst (T.map PV.str)) := u.get (by omega) (N3.get (gr.get N1.at_))
  clear u e3 N3 gr ea
  -- the first sign
  obtain ⟨cm3, hcm3⟩ : ∃ b : Bool, decide (c.fmod 3 = 1) = b := ⟨_, rfl⟩
  refine sAs (by show 7 < 11; decide) (xIdx (xV (i := 2) rfl (xBin (xBin (xBin (xV (i := 1) rfl (xI (iDiv (by decide) (by decide) (xBin (xV (i := 0) rfl (xBf (a1 (xCmp (xBin (xV (i := 1) rfl (xI (iMod (by decide) (xI (cEqI ?_)))))))))))))))))))
  rw [fIntB]
  refine iMul (.inl (by omega)) ?_
  show binV .add _ _ _ _
  refine iAdd (xI ?_)
  refine x_abc (j := 0) (n := 26) (by omega) (by omega) fun f hf => ?_
  -- a slice of the row
  have sl : ∀ (h' : PH) (lo hi : Option Int) (R : KQ), Gr h4 h' → (∀ h6 b vs, Nw h' (.lst (chs vs)) h6 → b = h'.length → vs.length ≤ 8 → (∀ x ∈ vs, x < 128) → R (.ref b) h6) → slcV (.ref h1.length) lo hi h' R := by
    intro h' lo hi R g r
    refine ⟨_, lst_got (g.get e4), ?_⟩
    have ec : cut (chs ds) lo hi = chs (cut ds lo hi) := cut_map
    rw [ec]
    exact r _ _ _ Nw.of rfl (by have := cut_len (xs := ds) (lo := lo) (hi := hi); omega) fun x mx => hc4 x (cut_mem mx)
  refine sAs (by show 8 < 11; decide) (xBin (xV (i := 7) rfl (xBm (xS ⟨rfl, a1 (xSlc (xV (i := 4) rfl (xOS (i := 1) (xI ⟨rfl, xOS (i := ((1 + s8 : Nat) : Int)) (xV (i := 5) rfl ⟨rfl, sl h4 _ _ _ .refl fun h5 b vs N5 eb lv hv => ?_⟩)⟩))))⟩))))
  subst eb
  have lf : okL 9 (mkN [f] ++ mkN vs) := (okL.add (okL.mk (n := 1) (fun x m => by rw [List.mem_singleton.mp m]; exact hf) (by simp)) (okL.mk hv lv)).mono (by omega)
  refine x_join N5.at_ (by omega) ⟨by show _ ≤ 16777216; rw [mkN_len, mkN_len]; simp; omega, ?_⟩
  generalize mkN [f] ++ mkN vs = s0 at lf
  have g5 : Gr h4 h5 := N5.gr
  -- the told word
  obtain ⟨w19, hw19, lw19⟩ := fmn (c.fdiv 25 + ((i : Nat) : Int)) (n := 19) (by omega)
  refine sAs (by show 9 < 11; decide) (xIdx (xV (i := 3) rfl (xBin (xBin (xBin (xV (i := 1) rfl (xI (iDiv (by decide) (by decide) (xV (i := 0) rfl (iAdd (xI (iMod (by decide) ?_))))))))))))
  rw [hw19]
  obtain ⟨w, ew⟩ : ∃ w, T[w19]? = some w := ⟨T[w19]'(by omega), List.getElem?_eq_getElem _⟩
  have ow := tw w (List.mem_of_getElem? ew)
  refine ⟨_, .str w, lst_got (g5.get eT), by rw [atI_nat, List.getElem?_map, ew]; rfl, ?_⟩
  -- the end
  have fin : ∀ (h6 : PH) (s : Str) (x5 x7 : Option PV) (D : En), D.rt = Q → Gr h4 h6 → okL 9 s → evB sgT (callS sgT k) (.cons (.ret (.bin .add (.var 8) (.bin .mul (.str (Str.ofString "0")) (.bf .int1 (.cons (.cmp .inn (.var 8) (.var 3)) .nil))))) .nil) [some (.int (i : Nat)), some (.int c), some (.str abc), some (.ref h.length), some (.ref h1.length), x5, some (.int (at_ : Nat)), x7, some (.str s), some (.str w), none] h6 D := by
    intro h6 s x5 x7 D hD g6 os
    refine sR (xBin (xV (i := 8) rfl (xBin (xS (xBf (a1 (xCmp (xV (i := 8) rfl (xV (i := 3) rfl ⟨_, lst_got (g6.get eT), rfl, hfl, ?_⟩)))))))))
    have os2 := os.2
    have key : ∀ z : Str, okL 1 z → s.length + z.length ≤ SZ ∧ D.rt (.str (s ++ z)) h6 := fun z oz => by
      have := oz.2
      refine ⟨by show _ ≤ 16777216; omega, ?_⟩
      rw [hD]
      exact q h6 _ (g4.trans g6) ((os.add oz).mono (by omega))
    cases hb : (T.map PV.str).any (fun z => eqP z (.str s)) with
    | true =>
      refine ⟨⟨by decide, by decide, by decide +kernel, by decide +kernel⟩, ?_⟩
      have e0 : (⟨(List.replicate ((if true = true then (1 : Int) else 0)).toNat (Str.ofString "0").cps.toList).flatten.toArray⟩ : Str) = mkN [48] := by decide +kernel
      rw [e0]
      exact key _ (okL.mk (fun x m => by rw [List.mem_singleton.mp m]; decide) (by simp))
    | false =>
      refine ⟨⟨by decide, by decide, by decide +kernel, by decide +kernel⟩, ?_⟩
      have e0 : (⟨(List.replicate ((if false = true then (1 : Int) else 0)).toNat (Str.ofString "0").cps.toList).flatten.toArray⟩ : Str) = mkN [] := by decide +kernel
      rw [e0]
      exact key _ (okL.mk nofun (by simp))
  -- a word with a sign behind
  refine sIfB (tC (xBin (xV (i := 1) rfl (xI (iMod (by decide) (xI (cEqI ?_)))))))
  have two : ∀ (s : Str) (x5 x7 : Option PV) (h5 : PH) (D : En), D.rt = Q → Gr h4 h5 → okL 9 s → evB sgT (callS sgT k) (match b__law_name with | .cons _ (.cons _ (.cons _ (.cons _ (.cons _ (.cons _ (.cons _ (.cons _ (.cons _ (.cons _ b))))))))) => b | _ => .nil) [some (.int (i : Nat)), some (.int c), some (.str abc), some (.ref h.length), some (.ref h1.length), x5, some (.int (at_ : Nat)), x7, some (.str s), some (.str w), none] h5 D := by
    intro s x5 x7 h5 D hD g5 os
    refine sIfB (tC (xBin (xV (i := 1) rfl (xI (iMod (by decide) (xI (cEqI ?_)))))))
    have three : ∀ (s : Str) (h5 : PH) (D : En), D.rt = Q → Gr h4 h5 → okL 9 s → evB sgT (callS sgT k) (match b__law_name with | .cons _ (.cons _ (.cons _ (.cons _ (.cons _ (.cons _ (.cons _ (.cons _ (.cons _ (.cons _ (.cons _ b)))))))))) => b | _ => .nil) [some (.int (i : Nat)), some (.int c), some (.str abc), some (.ref h.length), some (.ref h1.length), x5, some (.int (at_ : Nat)), x7, some (.str s), some (.str w), none] h5 D := by
      intro s h5 D hD g5 os
      refine sIfB (tC (xBin (xV (i := 1) rfl (xI (iMod (by decide) (xI (cEqI ?_)))))))
      cases hb : decide (c.fmod 5 = 3) with
      | false => exact sEnd (fin h5 s _ _ _ hD g5 os)
      | true =>
        refine sAs (by show 8 < 11; decide) (xBm (xS ⟨rfl, a1 (xBin (xLst (a1 (xIdx (xV (i := 2) rfl (xBin (xBin (xV (i := 1) rfl (xI (iDiv (by decide) (by decide) (xI (x_abc (j := 0) (by omega) (by omega) fun f hf => ⟨lz1, fun h6 N6 => ?_⟩))))))))))))⟩))
        obtain ⟨i8, hi8, li8⟩ := fmn ((i : Nat) : Int) (n := 8) (by omega)
        refine xSlc (xV (i := 4) rfl (xOS (i := 1) (xI ⟨rfl, xOS (i := 1 + ((i : Nat) : Int).fmod 8) (xBin (xI (xBin (xV (i := 0) rfl (xI (iMod (by decide) (iAdd ⟨rfl, sl h6 _ _ _ (g5.nw N6) fun h7 b vs N7 eb lv hv => ?_⟩)))))))⟩)))
        subst eb
        have lz : ([PV.str (mkN [f])] : List PV).length + (chs vs).length ≤ SZ := by show 1 + (List.map _ vs).length ≤ 16777216; rw [List.length_map]; omega
        refine ⟨_, _, N7.get N6.at_, N7.at_, lz, ?_⟩
        have N8 := Nw.of (h := h7) (o := .lst (chs (f :: vs)))
        refine x_join (cs := f :: vs) N8.at_ (by simp; omega) ?_
        exact sEnd (fin _ _ _ _ _ hD (Gr.nw (Gr.nw (Gr.nw g5 N6) N7) N8) (okL.mk (fun x mx => by
          rcases List.mem_cons.mp mx with rfl | mx
          · exact hf
          · exact hv x mx) (by simp; omega)))
    cases hb : decide (c.fmod 5 = 2) with
    | false => exact sEnd (three s h5 _ hD g5 os)
    | true =>
      refine sAs (by show 8 < 11; decide) (xBin (xIdx (xV (i := 2) rfl (xBin (xBin (xBin (xV (i := 1) rfl (xI (iDiv (by decide) (by decide) (xV (i := 0) rfl (iAdd (xI (x_abc (j := 0) (by omega) (by omega) fun f hf => ?_)))))))))))))
      have := ow.2
      refine xV (i := 9) rfl ⟨by show _ ≤ 16777216; rw [mkN_len]; simp; omega, ?_⟩
      exact sEnd (three _ h5 _ hD g5 ((okL.add (okL.mk (n := 1) (fun x m => by rw [List.mem_singleton.mp m]; exact hf) (by simp)) ow).mono (by omega)))
  cases hb : decide (c.fmod 5 = 1) with
  | false => exact sEnd (two s0 _ _ h5 _ rfl g5 lf)
  | true =>
    refine sAs (by show 8 < 11; decide) (xBin (xV (i := 9) rfl (xIdx (xV (i := 2) rfl (xBin (xBin (xBin (xV (i := 1) rfl (xI (iDiv (by decide) (by decide) (xV (i := 0) rfl (iAdd (xI (x_abc (j := 0) (by omega) (by omega) fun f hf => ?_))))))))))))))
    have := ow.2
    refine ⟨by show _ ≤ 16777216; rw [mkN_len]; simp; omega, ?_⟩
    exact sEnd (two _ _ _ h5 _ rfl g5 ((okL.add ow (okL.mk (n := 1) (fun x m => by rw [List.mem_singleton.mp m]; exact hf) (by simp))).mono (by omega)))
end
end Py

set_option Elab.async false
set_option linter.all false
set_option maxRecDepth 100000
set_option maxHeartbeats 4000000
/-! The pile; terms taken, and made one. -/
namespace Py
open PySem
abbrev Pr := Tm × Nat
def prV (p : Pr) : PV := .tup [pl p.1, .int (p.2 : Nat)]
def OkP (p : Pr) : Prop := wel p.1 ∧ dep p.1 ≤ p.2 ∧ p.2 ≤ 14
def szP (S : List Pr) : Nat := (S.map fun p => szT p.1).sum
theorem szP_app (S U : List Pr) : szP (S ++ U) = szP S + szP U := by unfold szP; rw [List.map_append, List.sum_append]
theorem szP_ts : ∀ D : List Pr, szTs (D.map (·.1)) = szP D
  | [] => rfl
  | p :: D => by
    have := szP_ts D
    show szT p.1 + szTs (D.map (·.1)) = szT p.1 + szP D
    omega
theorem szP_len : ∀ D : List Pr, D.length ≤ szP D
  | [] => Nat.le_refl _
  | p :: D => by
    have := szP_len D
    have := szT_pos p.1
    show D.length + 1 ≤ szT p.1 + szP D
    omega
theorem szP_cut (S : List Pr) (n : Nat) : szP (S.take n) + szP (S.drop n) = szP S := by rw [← szP_app, List.take_append_drop]
theorem mkS_ok {s : String} (h : PyData.strOk (Str.ofString s) = true) (l : (Str.ofString s).length ≤ 12) : okS (Str.ofString s) := ⟨h, l⟩
section
variable {k : Nat} {h : PH} {Q : KQ} {X : KX} {l : Loc}
theorem xSlr {a : E} (q : evE sgT (callS sgT k) X a l h fun x h1 => ∃ p xs, x = .ref p ∧ lstOf h1 (.ref p) = some xs ∧ ∀ h2, Nw h1 (.lst xs.reverse) h2 → Q (.ref h1.length) h2) : evE sgT (callS sgT k) X (.slr a) l h Q := by
  show evE sgT (callS sgT k) X a l h _
  exact mE_ q fun x h1 ⟨p, xs, e1, e2, z⟩ => ⟨p, xs, e1, e2, z _ Nw.of⟩
theorem Stays.up_new {D : List Nat} {h h1 h2 : PH} {p : Nat} {o : PO} (s : Stays D h h1) (u : Up h1 p o h2) (n : h.length ≤ p) : Stays D h h2 := ⟨by have := s.le; have := u.len; omega, fun b o nb eb => u.get (by have := lt_of eb; omega) (s.at_ b o nb eb)⟩
theorem s_atom {c s : Int} (q : ∀ h' t, Gr h h' → wel t → dep t = 0 → szT t = 1 → Q (pl t) h') : callS sgT (k + 2) (.fn n__law_atom) [.int c, .int s] h Q X := by
  refine xFn (d := d__law_atom) rfl rfl ?_
  obtain ⟨m, hm, lm⟩ := fmn c (n := 4) (by omega)
  refine sIf (r := decide (m = 0)) (tC (xBin (xV (i := 0) rfl (xI (iMod (by decide) (xI (cEqI ?_)))))))
  rw [hm]
  refine ⟨by simp, ?_⟩
  by_cases z : m = 0
  · rw [decide_eq_true z]
    obtain ⟨a, ha, la⟩ := fmn (c.fdiv 4) (n := 10) (by omega)
    obtain ⟨b, hb, lb⟩ := fmn (c.fdiv 4) (n := 1000000000) (by omega)
    obtain ⟨j, hj, lj⟩ := fmn (c.fdiv 40) (n := 2) (by omega)
    refine sR (xTup (aC (xS (a1 (xIdx (xLst (aC (xBin (xBin (xV (i := 0) rfl (xI (iDiv (by decide) (by decide) (xI (iMod (by decide) ?_))))))))))))))
    refine a1 (xBin (xBin (xV (i := 0) rfl (xI (iDiv (by decide) (by decide) (xI (iMod (by decide) ⟨lz2, fun h1 N1 => ?_⟩)))))))
    refine xBin (xBin (xV (i := 0) rfl (xI (iDiv (by decide) (by decide) (xI (iMod (by decide) ?_))))))
    rw [ha, hb] at N1
    rw [hj]
    have fin : ∀ v : Nat, (v : Int) < 1000000000 → ([Str.ofString "number", "number"] : List Str).length ≤ SZ → Q (pl (.num ((v : Nat) : Int))) h1 := fun v lv _ => q h1 (.num ((v : Nat) : Int)) N1.gr ⟨by omega, lv⟩ rfl rfl
    match j, lj with
    | 0, _ => exact ⟨_, _, lst_got N1.at_, rfl, lz2, q h1 (.num ((a : Nat) : Int)) N1.gr ⟨by omega, by omega⟩ rfl rfl⟩
    | 1, _ => exact ⟨_, _, lst_got N1.at_, rfl, lz2, q h1 (.num ((b : Nat) : Int)) N1.gr ⟨by omega, lb⟩ rfl rfl⟩
  rw [decide_eq_false z]
  refine sEnd (G := sgT) (k := k + 1) ?_
  refine sIf (r := decide (m = 1)) (tC (xBin (xV (i := 0) rfl (xI (iMod (by decide) (xI (cEqI ?_)))))))
  rw [hm]
  refine ⟨by simp; omega, ?_⟩
  by_cases z1 : m = 1
  · rw [decide_eq_true z1]
    obtain ⟨j, hj, lj⟩ := fmn (c.fdiv 4) (n := 3) (by omega)
    refine sR (xIdx (xLst (aC (xTup (a1 (xS ⟨lz1, aC (xTup (aC (xS (a1 (xB ⟨lz2, a1 (xTup (aC (xS (a1 (xB ⟨lz2, lz3, fun h1 N1 => ?_⟩)))))⟩)))))⟩))))))
    refine xBin (xBin (xV (i := 0) rfl (xI (iDiv (by decide) (by decide) (xI (iMod (by decide) ?_))))))
    rw [hj]
    match j, lj with
    | 0, _ => exact ⟨_, _, lst_got N1.at_, rfl, q h1 .slf N1.gr trivial rfl rfl⟩
    | 1, _ => exact ⟨_, _, lst_got N1.at_, rfl, q h1 (.tru true) N1.gr trivial rfl rfl⟩
    | 2, _ => exact ⟨_, _, lst_got N1.at_, rfl, q h1 (.tru false) N1.gr trivial rfl rfl⟩
  rw [decide_eq_false z1]
  refine sEnd (G := sgT) (k := k + 1) ?_
  obtain ⟨i, hi, li⟩ := fmn (c.fdiv 4) (n := 12) (by omega)
  refine sR (xTup (aC (xS (a1 (xCall (aC (xBin (xBin (xV (i := 0) rfl (xI (iDiv (by decide) (by decide) (xI (iMod (by decide) ?_)))))))))))))
  rw [hi]
  exact a1 (xV (i := 1) rfl (s_name (by omega) fun h1 nm g1 o => ⟨lz2, q h1 (.nam nm) g1 o rfl rfl⟩))
/-- one side of each pair -/
theorem c_pairs {i b : Nat} {g : Pr → PV} {D : List Pr} (hi : ∀ p : Pr, atI [pl p.1, PV.int (p.2 : Nat)] ((i : Nat) : Int) = some (g p)) (hz : D.length ≤ 900) (l1 : l[2]? = some (some (.ref b))) (hl : l.length = 5) (e : h[b]? = some (.lst (D.map prV)))
    (q : ∀ h', Gr h h' → h'[h.length]? = some (.lst (D.map g)) → Q (.ref h.length) h') :
    evE sgT (callS sgT k) X (.lc (.idx (.var 4) (.int (i : Nat))) (.nm 4) (.seq (.var 2)) .no) l h Q := by
  refine xLc (by omega) (iSeq (xV l1 ⟨lst_got e, fun h2 N => ?_⟩))
  refine comp_inv (fun j acc h' => Gr h h' ∧ acc = (D.take j).map g) (fun _ _ _ iv => lst_got (Gr.get iv.1 e)) _ 0 [] h2 ⟨N.gr, rfl⟩ N.at_ (by show 0 + _ ≤ 16777216; rw [List.length_map]; omega) (fun j x acc h' K ex iv ea c1 _ => ?_) fun acc h' iv ea => ?_
  · obtain ⟨gr, rfl⟩ := iv
    rw [List.getElem?_map] at ex
    obtain ⟨p, ep, rfl⟩ := Option.map_eq_some_iff.mp ex
    refine xIdx (xV (i := 4) (v := prV p) (by rw [List.getElem?_set_self (by simp; omega)]) (xI ⟨_, hi p, ?_⟩))
    refine c1 _ _ ea fun h4 u => ⟨Gr.up gr u (Nat.le_refl _), ?_⟩
    rw [show D.take (0 + j + 1) = D.take (0 + j) ++ [p] by rw [Nat.zero_add, List.take_succ, ep]; rfl, List.map_append]
    rfl
  · obtain ⟨gr, rfl⟩ := iv
    rw [List.length_map, Nat.zero_add, List.take_length] at ea
    exact q h' gr ea
theorem take_pred {α : Type} {S : List α} {j : Nat} (hj : j < S.length) : (S.take (S.length - j)).dropLast = S.take (S.length - (j + 1)) := by
  rw [List.dropLast_eq_take, List.length_take, List.take_take]
  congr 1
  omega
theorem at_pred {α : Type} {S : List α} {j : Nat} (hj : j < S.length) : (S.take (S.length - j))[(S.take (S.length - j)).length - 1]? = S[S.length - (j + 1)]? := by
  rw [List.length_take, List.getElem?_take, if_pos (by omega)]
  congr 1
  omega
theorem drop_pred {α : Type} {S : List α} {j : Nat} {p : α} (e : S[S.length - (j + 1)]? = some p) (hj : j < S.length) : S.drop (S.length - (j + 1)) = p :: S.drop (S.length - j) := by
  obtain ⟨hl, e2⟩ := List.getElem?_eq_some_iff.mp e
  rw [List.drop_eq_getElem_cons hl, e2]
  congr 2
  omega
theorem s_taken {a m : Nat} {S : List Pr} (e : h[a]? = some (.lst (S.map prV))) (hz : S.length ≤ 900) (hm : m ≤ 100)
    (q : ∀ h' d, Stays [a] h h' → h'[a]? = some (.lst ((S.take (S.length - min m S.length)).map prV)) → (∀ p ∈ S.drop (S.length - min m S.length), p.2 ≤ d) → (∀ n, (∀ p ∈ S.drop (S.length - min m S.length), p.2 ≤ n) → d ≤ n) → Q (.tup [.tup (pls ((S.drop (S.length - min m S.length)).map (·.1))), .int (d : Nat)]) h') :
    callS sgT (k + 1) (.fn n__law_taken) [.ref a, .int (m : Nat)] h Q X := by
  refine xFn (d := d__law_taken) rfl rfl ?_
  have la := lt_of e
  have emin : (if ((S.map prV).length : Int) < ((m : Nat) : Int) then ((S.map prV).length : Int) else ((m : Nat) : Int)) = ((min m S.length : Nat) : Int) := by
    rw [List.length_map]
    by_cases z : (S.length : Int) < ((m : Nat) : Int)
    · rw [if_pos z]; omega
    · rw [if_neg z]; omega
  refine sAs (by show 2 < 5; decide) (xLc (by show 3 < 5; decide) (iR1 (j := ((min m S.length : Nat) : Int)) (by omega) (xBf (aC (xV (i := 1) rfl (a1 (xBf (a1 (xV (i := 0) rfl ⟨_, lst_got e, ?_⟩)))))))))
  show bfV BF.min2 [PV.int ((m : Nat) : Int), PV.int ((S.map prV).length : Int)] h _
  rw [fMin, emin]
  generalize hn : min m S.length = n at q emin ⊢
  have ln : n ≤ S.length := by omega
  refine ⟨rfl, fun h1 N1 => ?_⟩
  refine comp_inv (fun j acc h' => Stays [a] h h' ∧ h'[a]? = some (.lst ((S.take (S.length - j)).map prV)) ∧ acc = (S.drop (S.length - j)).reverse.map prV) (fun _ _ _ _ => trivial) _ 0 [] h1 ⟨N1.stays, by rw [Nat.sub_zero, List.take_length]; exact N1.get e, by rw [Nat.sub_zero, List.drop_length]; rfl⟩ N1.at_ (by show 0 + _ ≤ 16777216; rw [rangeL_len]; omega) (fun j x acc h' K ex iv ea c1 _ => ?_) fun acc h' iv ea => ?_
  · rw [Nat.zero_add] at iv
    obtain ⟨st, es, rfl⟩ := iv
    obtain ⟨lj, rfl⟩ := rangeL_at ex
    have lj : j < n := by omega
    obtain ⟨p, ep⟩ : ∃ p, S[S.length - (j + 1)]? = some p := ⟨S[S.length - (j + 1)]'(by omega), List.getElem?_eq_getElem _⟩
    refine xBm (xV (i := 0) (v := .ref a) rfl ⟨ty_get es, aN ⟨_, prV p, es, ?_, ?_⟩⟩)
    · rw [List.length_map, List.getElem?_map, at_pred (by omega), ep]; rfl
    have u := Up.of (o := .lst ((S.take (S.length - j)).map prV).dropLast) es
    generalize h'.set a (PO.lst ((S.take (S.length - j)).map prV).dropLast) = h2 at u ⊢
    refine c1 _ _ (u.get (by omega) ea) fun h3 u3 => ⟨Stays.up_new (st.trans (u.stays (by simp))) u3 (Nat.le_refl _), ?_, ?_⟩
    · rw [Nat.zero_add, ← take_pred (by omega), List.map_dropLast]
      exact u3.get (by omega) u.at_
    · rw [Nat.zero_add, drop_pred ep (by omega), List.reverse_cons, List.map_append]; rfl
  · obtain ⟨st, es, rfl⟩ := iv
    rw [rangeL_len, Nat.zero_add, show ((n : Nat) : Int).toNat = n by omega] at es ea
    refine sAs (by show 2 < 5; decide) (xSlr (xV (i := 2) (v := .ref h.length) rfl ⟨_, _, rfl, lst_got ea, fun h2 N2 => ?_⟩))
    rw [← List.map_reverse, List.reverse_reverse] at N2
    have lD : (S.drop (S.length - n)).length ≤ 900 := by rw [List.length_drop]; omega
    have es2 := N2.get es
    generalize hD : S.drop (S.length - n) = D at q N2 lD
    refine sR (xTup (aC (xBf (a1 (c_pairs (D := D) (i := 0) (g := fun p => pl p.1) (fun p => rfl) lD rfl rfl N2.at_ fun h3 g3 e3 => ⟨_, lst_got e3, ?_⟩)))))
    rw [show D.map (fun p => pl p.1) = pls (D.map (·.1)) by rw [pls_map, List.map_map]; rfl]
    refine a1 (xBf (a1 (xBin (c_pairs (D := D) (i := 1) (g := fun p => .int (p.2 : Nat)) (fun p => rfl) lD rfl rfl (g3.get N2.at_) fun h4 g4 e4 => ?_))))
    refine xLst (a1 (xI ⟨by decide, fun h5 N5 => ?_⟩))
    refine ⟨_, _, N5.get e4, N5.at_, by show _ + 1 ≤ 16777216; rw [List.length_map]; omega, ?_⟩
    obtain ⟨m, hm1, hm2⟩ := max_of (D.map fun p => ((p.2 : Nat) : Int))
    have m0 : 0 ≤ m := hm2 0 (by simp)
    obtain ⟨d, rfl⟩ := Int.eq_ofNat_of_zero_le m0
    refine ⟨(D.map fun p => ((p.2 : Nat) : Int)) ++ [0], ((d : Nat) : Int), ?_, hm1, hm2, lz2, ?_⟩
    · rw [List.map_append, List.map_map]; exact lstOf_new
    have N6 := Nw.of (h := h5) (o := .lst (D.map (fun p => PV.int (p.2 : Nat)) ++ [.int 0]))
    have gg : Gr h2 (h5 ++ [PO.lst (D.map (fun p => PV.int (p.2 : Nat)) ++ [.int 0])]) := Gr.nw (Gr.nw (Stays.trans g3 g4) N5) N6
    refine q _ d (st.trans (N2.stays.trans gg.stays)) (gg.get es2) (fun p mp => ?_) fun n' hn' => ?_
    · have := hm2 ((p.2 : Nat) : Int) (List.mem_append_left _ (List.mem_map_of_mem (f := fun p : Pr => ((p.2 : Nat) : Int)) mp)); omega
    · rcases List.mem_append.mp hm1 with z | z
      · obtain ⟨p, mp, ep⟩ := List.mem_map.mp z
        have := hn' p mp; omega
      · have := List.mem_singleton.mp z; omega
end
end Py

set_option Elab.async false
set_option linter.all false
set_option maxRecDepth 100000
set_option maxHeartbeats 4000000
/-! Terms made of those on the pile. -/
namespace Py
open PySem
theorem cut_tail {x : PV} {xs : List PV} : cut (x :: xs) (some 1) none = xs := by
  unfold cut sIx
  simp
theorem wels_app : ∀ {ts us : List Tm}, wels ts → wels us → wels (ts ++ us)
  | [], _, _, b => b
  | _ :: _, _, a, b => ⟨a.1, wels_app a.2 b⟩
/-- what a row of terms of the pile is -/
structure Tk (m : Nat) (S S' : List Pr) (ts : List Tm) (d : Nat) : Prop where
  len : ts.length = min m S.length
  sub : ∀ x ∈ S', x ∈ S
  w : wels ts
  dp : deps ts ≤ d
  d : d ≤ 13
  sz : szP S' + szTs ts = szP S
section
variable {k : Nat} {h : PH} {Q : KQ} {X : KX} {l : Loc} {a m : Nat} {S : List Pr}
theorem sTk {me : E} {b : B} {D : En} (e : h[a]? = some (.lst (S.map prV))) (hz : S.length ≤ 900) (hm : m ≤ 9) (ok : ∀ p ∈ S, OkP p) (dp : ∀ p ∈ S.drop (S.length - 9), p.2 ≤ 13) (l0 : l[0]? = some (some (.ref a))) (l5 : 5 < l.length)
    (hme : ∀ R : KQ, R (.int (m : Nat)) h → evE sgT (callS sgT (k + 1)) (fun x h' => D.ex x l h') me l h R)
    (q : ∀ h' ts d S', Stays [a] h h' → h'[a]? = some (.lst (S'.map prV)) → Tk m S S' ts d → evB sgT (callS sgT (k + 1)) b ((l.set 4 (some (.tup (pls ts)))).set 5 (some (.int (d : Nat)))) h' D) :
    evB sgT (callS sgT (k + 1)) (.cons (.asg (.tup (.cons (.nm 4) (.cons (.nm 5) .nil))) (.call n__law_taken (.cons (.var 0) (.cons me .nil)))) b) l h D := by
  show evE sgT (callS sgT (k + 1)) (fun x h' => D.ex x l h') (.call n__law_taken (.cons (.var 0) (.cons me .nil))) l h _
  refine xCall (aC (xV l0 (a1 (hme _ (s_taken e hz (by omega) fun h' d st e' h1 h2 => ?_)))))
  have lt : ((S.drop (S.length - min m S.length)).map (·.1)).length = min m S.length := by rw [List.length_map, List.length_drop]; omega
  have sub : ∀ p ∈ S.drop (S.length - min m S.length), p ∈ S.drop (S.length - 9) := fun p mp => by
    have : S.drop (S.length - min m S.length) = (S.drop (S.length - 9)).drop (S.length - min m S.length - (S.length - 9)) := by
      rw [List.drop_drop]; congr 1; omega
    rw [this] at mp
    exact List.mem_of_mem_drop mp
  refine ⟨_, rfl, rfl, _, _, rfl, by omega, _, _, rfl, by rw [List.length_set]; exact l5, rfl, ?_⟩
  refine q h' _ d _ st e' ⟨lt, fun x mx => List.mem_of_mem_take mx, wels_of fun u mu => ?_, deps_of fun u mu => ?_, h2 13 fun p mp => dp p (sub p mp), by rw [szP_ts]; exact szP_cut _ _⟩
  · obtain ⟨p, mp, rfl⟩ := List.mem_map.mp mu
    exact (ok p (List.mem_of_mem_drop mp)).1
  · obtain ⟨p, mp, rfl⟩ := List.mem_map.mp mu
    have := (ok p (List.mem_of_mem_drop mp)).2.1
    have := h1 p mp
    omega
theorem s_about {c s : Int} (e : h[a]? = some (.lst (S.map prV))) (hz : S.length ≤ 900) (ne : S ≠ []) (ok : ∀ p ∈ S, OkP p) (dp : ∀ p ∈ S.drop (S.length - 9), p.2 ≤ 13)
    (q : ∀ h' S' p, Stays [a] h h' → h'[a]? = some (.lst (S'.map prV)) → (∀ x ∈ S', x ∈ S) → OkP p → szP S' + szT p.1 = szP S + 1 → Q (prV p) h') : callS sgT (k + 2) (.fn n__law_about) [.ref a, .int c, .int s] h Q X := by
  have l1 : 1 ≤ S.length := by cases S with
    | nil => exact absurd rfl ne
    | cons => simp
  refine xFn (d := d__law_about) rfl rfl ?_
  obtain ⟨i, hi, li⟩ := fmn (c.fdiv 4) (n := 12) (by omega)
  refine sAs (by show 3 < 7; decide) (xCall (aC (xBin (xBin (xV (i := 1) rfl (xI (iDiv (by decide) (by decide) (xI (iMod (by decide) ?_)))))))))
  rw [hi]
  refine a1 (xV (i := 2) rfl (s_name (by omega) fun h1 nm g1 on => ?_))
  have e1 := g1.get e
  have fin : ∀ (h' : PH) (S' : List Pr) (ts : List Tm) (d m : Nat) (t : Tm), Stays [a] h1 h' → h'[a]? = some (.lst (S'.map prV)) → Tk m S S' ts d → wel t → dep t ≤ deps ts + 1 → szT t = 1 + szTs ts → Q (.tup [pl t, .int ((d : Nat) + 1)]) h' := fun h' S' ts d m t st e' T w d1 z1 =>
    q h' S' (t, d + 1) (g1.stays.trans st) e' T.sub ⟨w, by have := T.dp; show dep t ≤ d + 1; omega, by have := T.d; show d + 1 ≤ 14; omega⟩ (by have := T.sz; show szP S' + szT t = _; omega)
  obtain ⟨c4, hc4, lc4⟩ := fmn c (n := 4) (by omega)
  refine sIf (r := decide (c4 = 3)) (tC (xBin (xV (i := 1) rfl (xI (iMod (by decide) (xI (cEqI ?_)))))))
  rw [hc4]
  refine ⟨by simp; omega, ?_⟩
  by_cases z3 : c4 = 3
  · rw [decide_eq_true z3]
    refine sTk (m := 1) e1 hz (by omega) ok dp rfl (by show 5 < 7; decide) (fun R r => xI r) fun h2 ts d S' st e2 T => ?_
    have lt := T.len
    match ts, lt, T with
    | [t], _, T =>
      refine sR (xTup (aC (xTup (aC (xS (aC (xIdx (xV (i := 4) rfl (xI ⟨_, rfl, a1 (xV (i := 3) rfl ⟨lz3, a1 (xBin (xV (i := 5) rfl (xI (iAdd ⟨lz2, ?_⟩))))⟩)⟩)))))))))
      exact fin h2 S' [t] d 1 (.fld t nm) st e2 T ⟨T.w.1, on⟩ (by simp only [dep, deps]; omega) (by simp only [szT, szTs]; omega)
    | [], lt, _ => exact absurd lt (by show ¬ (0 = min 1 S.length); omega)
    | _ :: _ :: r, lt, _ => exact absurd lt (by show ¬ (r.length + 1 + 1 = min 1 S.length); omega)
  rw [decide_eq_false z3]
  refine sEnd (G := sgT) (k := k + 1) ?_
  obtain ⟨j, hj, lj⟩ := fmn (c.fdiv 48) (n := 8) (by omega)
  have hmn : ∃ m : Nat, m ≤ 8 ∧ atI [PV.int 0, .int 1, .int 2, .int 3, .int 8, .int 1, .int 2, .int 5] ((j : Nat) : Int) = some (.int (m : Nat)) := by
    rw [atI_nat]
    match j, lj with
    | 0, _ => exact ⟨0, by omega, rfl⟩
    | 1, _ => exact ⟨1, by omega, rfl⟩
    | 2, _ => exact ⟨2, by omega, rfl⟩
    | 3, _ => exact ⟨3, by omega, rfl⟩
    | 4, _ => exact ⟨8, by omega, rfl⟩
    | 5, _ => exact ⟨1, by omega, rfl⟩
    | 6, _ => exact ⟨2, by omega, rfl⟩
    | 7, _ => exact ⟨5, by omega, rfl⟩
  obtain ⟨m, lm, hmn⟩ := hmn
  refine sAs (by show 6 < 7; decide) (xIdx (xLst (aC (xI (aC (xI (aC (xI (aC (xI (aC (xI (aC (xI (aC (xI (a1 (xI ⟨by show 8 ≤ 16777216; decide, fun h2 N2 => ?_⟩))))))))))))))))))
  refine xBin (xBin (xV (i := 1) rfl (xI (iDiv (by decide) (by decide) (xI (iMod (by decide) ?_))))))
  rw [hj]
  refine ⟨_, _, lst_got N2.at_, hmn, ?_⟩
  have e2 := N2.get e1
  refine sIf (r := decide (c4 = 2)) (tC (xBin (xV (i := 1) rfl (xI (iMod (by decide) (xI (cEqI ?_)))))))
  rw [hc4]
  refine ⟨by simp; omega, ?_⟩
  by_cases z2 : c4 = 2
  · rw [decide_eq_true z2]
    refine sTk (m := min m 7 + 1) e2 hz (by omega) ok dp rfl (by show 5 < 7; decide) (fun R r => xBin (xBf (aC (xV (i := 6) rfl (a1 (xI ?_)))))) fun h3 ts d S' st e3 T => ?_
    · rw [fMin]
      refine xI (iAdd ?_)
      rw [show (if (7 : Int) < ((m : Nat) : Int) then (7 : Int) else ((m : Nat) : Int)) + 1 = ((min m 7 + 1 : Nat) : Int) by split <;> omega]
      exact r
    have lt := T.len
    match ts, lt, T with
    | t :: r, _, T =>
      refine sR (xTup (aC (xTup (aC (xS (aC (xIdx (xV (i := 4) rfl (xI ⟨pl t, by show atI _ ((0 : Nat) : Int) = _; rw [atI_nat]; rfl, aC (xV (i := 3) rfl (a1 (xSlc (xV (i := 4) rfl (xOS (i := 1) (xI ⟨rfl, xON ?_⟩))))))⟩)))))))))
      show slcV (.tup (pl t :: pls r)) _ _ _ _
      rw [slT, cut_tail]
      refine ⟨lz4, a1 (xBin (xV (i := 5) rfl (xI (iAdd ⟨lz2, ?_⟩))))⟩
      exact fin h3 S' (t :: r) d _ (.cal t nm r) (N2.stays.trans st) e3 T ⟨T.w.1, on, T.w.2⟩ (by simp only [dep, deps]; omega) (by simp only [szT, szTs]; omega)
    | [], lt, _ => exact absurd lt (by show ¬ (0 = min _ S.length); omega)
  rw [decide_eq_false z2]
  refine sEnd (G := sgT) (k := k + 1) ?_
  refine sTk (m := m) e2 hz (by omega) ok dp rfl (by show 5 < 7; decide) (fun R r => xV (i := 6) rfl r) fun h3 ts d S' st e3 T => ?_
  refine sR (xTup (aC (xTup (aC (xIdx (xLst (aC (xS (a1 (xS ⟨lz2, fun h4 N4 => xBin (xV (i := 1) rfl (xI (iMod (by decide) ?_)))⟩))))))))))
  rw [hc4]
  have st4 : Stays [a] h1 h4 := (N2.stays.trans st).trans N4.stays
  have c01 : c4 = 0 ∨ c4 = 1 := by omega
  rcases c01 with rfl | rfl
  · refine ⟨_, _, lst_got N4.at_, rfl, aC (xV (i := 3) rfl (a1 (xV (i := 4) rfl ⟨lz3, a1 (xBin (xV (i := 5) rfl (xI (iAdd ⟨lz2, ?_⟩))))⟩)))⟩
    exact fin h4 S' ts d _ (.new nm ts) st4 (N4.get e3) T ⟨on, T.w⟩ (by simp only [dep]; omega) (by simp only [szT])
  · refine ⟨_, _, lst_got N4.at_, rfl, aC (xV (i := 3) rfl (a1 (xV (i := 4) rfl ⟨lz3, a1 (xBin (xV (i := 5) rfl (xI (iAdd ⟨lz2, ?_⟩))))⟩)))⟩
    exact fin h4 S' ts d _ (.eld nm ts) st4 (N4.get e3) T ⟨on, T.w⟩ (by simp only [dep]; omega) (by simp only [szT])
theorem s_joined {c s : Int} (e : h[a]? = some (.lst (S.map prV))) (hz : S.length ≤ 900) (ne : S ≠ []) (ok : ∀ p ∈ S, OkP p) (dp : ∀ p ∈ S.drop (S.length - 9), p.2 ≤ 13)
    (q : ∀ h' S' p, Stays [a] h h' → h'[a]? = some (.lst (S'.map prV)) → (∀ x ∈ S', x ∈ S) → OkP p → szP S' + szT p.1 = szP S + 1 → Q (prV p) h') : callS sgT (k + 2) (.fn n__law_joined) [.ref a, .int c, .int s] h Q X := by
  have l1 : 1 ≤ S.length := by cases S with
    | nil => exact absurd rfl ne
    | cons => simp
  refine xFn (d := d__law_joined) rfl rfl ?_
  obtain ⟨i, hi, li⟩ := fmn (c.fdiv 7) (n := 12) (by omega)
  refine sAs (by show 3 < 6; decide) (xCall (aC (xBin (xBin (xV (i := 1) rfl (xI (iDiv (by decide) (by decide) (xI (iMod (by decide) ?_)))))))))
  rw [hi]
  refine a1 (xV (i := 2) rfl (s_name (by omega) fun h1 nm g1 on => ?_))
  have e1 := g1.get e
  have fin : ∀ (h' : PH) (S' : List Pr) (ts : List Tm) (d m : Nat) (t : Tm), Stays [a] h1 h' → h'[a]? = some (.lst (S'.map prV)) → Tk m S S' ts d → wel t → dep t ≤ deps ts + 1 → szT t = 1 + szTs ts → Q (.tup [pl t, .int ((d : Nat) + 1)]) h' := fun h' S' ts d m t st e' T w d1 z1 =>
    q h' S' (t, d + 1) (g1.stays.trans st) e' T.sub ⟨w, by have := T.dp; show dep t ≤ d + 1; omega, by have := T.d; show d + 1 ≤ 14; omega⟩ (by have := T.sz; show szP S' + szT t = _; omega)
  obtain ⟨c7, hc7, lc7⟩ := fmn c (n := 7) (by omega)
  -- an if
  refine sIfB (tAnd (r := decide (c7 = 0)) (tC (xBin (xV (i := 1) rfl (xI (iMod (by decide) (xI (cEqI ?_))))))))
  rw [hc7]
  refine ⟨by simp, ?_⟩
  have rest : ∀ D : En, D.rt = Q → evB sgT (callS sgT (k + 1)) (match b__law_joined with | .cons _ (.cons _ b) => b | _ => .nil) [some (.ref a), some (.int c), some (.int s), some (.str nm), none, none] h1 D := by
    intro D hD
    refine sIf (r := decide (c7 = 1)) (tC (xBin (xV (i := 1) rfl (xI (iMod (by decide) (xI (cEqI ?_)))))))
    rw [hc7]
    refine ⟨by simp; omega, ?_⟩
    have nt_ : ∀ (h2 : PH) (ts : List Tm) (d m : Nat) (S' : List Pr) (D : En) (b : B), D.rt = Q → Stays [a] h1 h2 → h2[a]? = some (.lst (S'.map prV)) → Tk m S S' ts d → ts.length = 1 → evB sgT (callS sgT (k + 1)) (.cons (.ret (.tup (.cons (.tup (.cons (.str (Str.ofString "not")) (.cons (.idx (.var 4) (.int 0)) .nil))) (.cons (.bin .add (.var 5) (.int 1)) .nil)))) b) [some (.ref a), some (.int c), some (.int s), some (.str nm), some (.tup (pls ts)), some (.int (d : Nat))] h2 D := by
      intro h2 ts d m S' D b hD st e2 T lt
      match ts, lt, T with
      | [t], _, T =>
        refine sR (xTup (aC (xTup (aC (xS (a1 (xIdx (xV (i := 4) rfl (xI ⟨_, rfl, lz2, a1 (xBin (xV (i := 5) rfl (xI (iAdd ⟨lz2, ?_⟩))))⟩)))))))))
        rw [hD]
        exact fin h2 S' [t] d m (.nt t) st e2 T T.w.1 (by simp only [dep, deps]; omega) (by simp only [szT, szTs]; omega)
    by_cases z1 : c7 = 1
    · rw [decide_eq_true z1]
      refine sTk (m := 1) e1 hz (by omega) ok dp rfl (by show 5 < 6; decide) (fun R r => xI r) fun h2 ts d S' st e2 T => ?_
      exact nt_ h2 ts d 1 S' _ _ hD st e2 T (by have := T.len; omega)
    rw [decide_eq_false z1]
    refine sEnd (G := sgT) (k := k + 1) ?_
    refine sTk (m := 2) e1 hz (by omega) ok dp rfl (by show 5 < 6; decide) (fun R r => xI r) fun h2 ts d S' st e2 T => ?_
    have lt := T.len
    refine sIf (r := decide (ts.length < 2)) (tC (xBf (a1 (xV (i := 4) rfl ⟨_, rfl, xI ⟨?_, ?_⟩⟩))))
    · rw [pls_map, List.length_map, decide_eq_decide]
      omega
    by_cases z2 : ts.length < 2
    · rw [decide_eq_true z2]
      exact nt_ h2 ts d 2 S' _ _ hD st e2 T (by omega)
    rw [decide_eq_false z2]
    refine sEnd (G := sgT) (k := k + 1) ?_
    match ts, lt, z2, T with
    | [x, y], _, _, T =>
      refine sIf (r := decide (c7 = 2)) (tC (xBin (xV (i := 1) rfl (xI (iMod (by decide) (xI (cEqI ?_)))))))
      rw [hc7]
      refine ⟨by simp; omega, ?_⟩
      have l4 : ∀ {a b c d : PV}, [a, b].length + [c, d].length ≤ SZ := by intro a b c d; show 4 ≤ 16777216; decide
      by_cases z3 : c7 = 2
      · rw [decide_eq_true z3]
        refine sR (xTup (aC (xBin (xTup (aC (xS (a1 (xV (i := 3) rfl ⟨lz2, xV (i := 4) rfl ⟨l4, a1 (xBin (xV (i := 5) rfl (xI (iAdd ⟨lz2, ?_⟩))))⟩⟩))))))))
        show D.rt _ h2
        rw [hD]
        exact fin h2 S' [x, y] d 2 (.lett nm x y) st e2 T ⟨on, T.w.1, T.w.2.1⟩ (by simp only [dep, deps]; omega) (by simp only [szT, szTs]; omega)
      rw [decide_eq_false z3]
      refine sEnd (G := sgT) (k := k + 1) ?_
      refine sIf (r := decide (c7 = 3)) (tC (xBin (xV (i := 1) rfl (xI (iMod (by decide) (xI (cEqI ?_)))))))
      rw [hc7]
      refine ⟨by simp; omega, ?_⟩
      by_cases z4 : c7 = 3
      · rw [decide_eq_true z4]
        refine sR (xTup (aC (xTup (aC (xS (aC (xIdx (xV (i := 4) rfl (xI ⟨_, rfl, aC (xV (i := 3) rfl (a1 (xIdx (xV (i := 4) rfl (xI ⟨_, rfl, lz4, a1 (xBin (xV (i := 5) rfl (xI (iAdd ⟨lz2, ?_⟩))))⟩)))))⟩)))))))))
        show D.rt _ h2
        rw [hD]
        exact fin h2 S' [x, y] d 2 (.sett x nm y) st e2 T ⟨T.w.1, on, T.w.2.1⟩ (by simp only [dep, deps]; omega) (by simp only [szT, szTs]; omega)
      rw [decide_eq_false z4]
      refine sEnd (G := sgT) (k := k + 1) ?_
      obtain ⟨j, hj, lj⟩ := fmn (c.fdiv 7) (n := 7) (by omega)
      have sg : ∃ g, g < 128 ∧ atI (Str.ofString "+-*/<=;").cps.toList ((j : Nat) : Int) = some g := by
        rw [atI_nat]
        match j, lj with
        | 0, _ => exact ⟨43, by omega, by decide +kernel⟩
        | 1, _ => exact ⟨45, by omega, by decide +kernel⟩
        | 2, _ => exact ⟨42, by omega, by decide +kernel⟩
        | 3, _ => exact ⟨47, by omega, by decide +kernel⟩
        | 4, _ => exact ⟨60, by omega, by decide +kernel⟩
        | 5, _ => exact ⟨61, by omega, by decide +kernel⟩
        | 6, _ => exact ⟨59, by omega, by decide +kernel⟩
      obtain ⟨g, lg, hg⟩ := sg
      refine sR (xTup (aC (xBin (xTup (aC (xS (a1 (xIdx (xS (xBin (xBin (xV (i := 1) rfl (xI (iDiv (by decide) (by decide) (xI (iMod (by decide) ?_))))))))))))))))
      rw [hj]
      refine ⟨by decide +kernel, g, hg, lz2, xV (i := 4) rfl ⟨l4, a1 (xBin (xV (i := 5) rfl (xI (iAdd ⟨lz2, ?_⟩))))⟩⟩
      show D.rt _ h2
      rw [hD]
      exact fin h2 S' [x, y] d 2 (.two (mkN [g]) x y) st e2 T ⟨okL.mk (n := 12) (fun z m => by rw [List.mem_singleton.mp m]; exact lg) (by simp), T.w.1, T.w.2.1⟩ (by simp only [dep, deps]; omega) (by simp only [szT, szTs]; omega)
    | [], _, z, _ => exact absurd (by decide) z
    | [_], _, z, _ => exact absurd (by show 1 < 2; omega) z
    | _ :: _ :: _ :: r, lt, _, _ => exact absurd lt (by show ¬ (r.length + 1 + 1 + 1 = min 2 S.length); omega)
  by_cases z0 : c7 = 0
  · rw [decide_eq_true z0]
    show evT sgT (callS sgT (k + 1)) _ _ _ _ _
    refine tC (xBf (a1 (xV (i := 0) rfl ⟨_, lst_got e1, xI ?_⟩)))
    rw [List.length_map]
    by_cases z3 : 2 < S.length
    · rw [cGt, decide_eq_true (by omega)]
      refine sTk (m := 3) e1 hz (by omega) ok dp rfl (by show 5 < 6; decide) (fun R r => xI r) fun h2 ts d S' st e2 T => ?_
      have lt := T.len
      match ts, lt, T with
      | [x, y, z], _, T =>
        refine sR (xTup (aC (xBin (xTup (a1 (xS ⟨lz1, xV (i := 4) rfl ⟨by show 4 ≤ 16777216; decide, a1 (xBin (xV (i := 5) rfl (xI (iAdd ⟨lz2, ?_⟩))))⟩⟩))))))
        exact fin h2 S' [x, y, z] d 3 (.ite x y z) st e2 T ⟨T.w.1, T.w.2.1, T.w.2.2.1⟩ (by simp only [dep, deps]; omega) (by simp only [szT, szTs]; omega)
      | [], lt, _ => exact absurd lt (by show ¬ (0 = min 3 S.length); omega)
      | [_], lt, _ => exact absurd lt (by show ¬ (1 = min 3 S.length); omega)
      | [_, _], lt, _ => exact absurd lt (by show ¬ (2 = min 3 S.length); omega)
      | _ :: _ :: _ :: _ :: r, lt, _ => exact absurd lt (by show ¬ (r.length + 1 + 1 + 1 + 1 = min 3 S.length); omega)
    · rw [cGt, decide_eq_false (by omega)]
      exact sEnd (G := sgT) (k := k + 1) (rest _ rfl)
  · rw [decide_eq_false z0]
    exact sEnd (G := sgT) (k := k + 1) (rest _ rfl)
end
end Py

set_option Elab.async false
set_option linter.all false
set_option maxRecDepth 100000
set_option maxHeartbeats 4000000
/-! The drawn term. -/
namespace Py
open PySem
theorem enum_at : ∀ {xs : List PV} {n i : Nat} {v : PV}, (enumFrom n xs)[i]? = some v → ∃ x, xs[i]? = some x ∧ v = .tup [.int ((n + i : Nat) : Int), x]
  | [], n, i, v, e => by cases i <;> cases e
  | x :: r, n, i, v, e => by
    cases i with
    | zero => exact ⟨x, rfl, by simpa [enumFrom] using e.symm⟩
    | succ i =>
      obtain ⟨y, e1, e2⟩ := enum_at (xs := r) (n := n + 1) (i := i) (v := v) (by simpa [enumFrom] using e)
      exact ⟨y, by simpa using e1, by rw [e2, show n + 1 + i = n + (i + 1) by omega]⟩
section
variable {k : Nat} {h : PH} {Q : KQ} {X : KX} {l : Loc}
theorem iEnu {e : E} {R : KI} (q : evE sgT (callS sgT k) X e l h fun x h1 => ∃ xs, lstOf h1 x = some xs ∧ R (enumFrom 0 xs) (liveL x xs) h1) : evI sgT (callS sgT k) X (.enu e) l h R := q
theorem s_cell {a : Nat} {j : Int} {ns : List Int} (hs : lstOf h (.ref a) = some (ns.map PV.int)) (h0 : 0 ≤ j) (q : ∀ c, Q (.int c) h) : callS sgT (k + 1) (.fn n__law_cell_at) [.ref a, .int j] h Q X := by
  refine xFn (d := d__law_cell_at) rfl rfl ?_
  obtain ⟨i, rfl⟩ := Int.eq_ofNat_of_zero_le h0
  by_cases hj : (i : Int) < ((ns.map PV.int).length : Int)
  · refine sIf (r := true) (tC (xV (i := 1) rfl (xBf (a1 (xV (i := 0) rfl ⟨_, hs, ?_⟩)))))
    refine ⟨decide_eq_true hj, sR (xIdx (xV (i := 0) rfl (xV (i := 1) rfl ?_)))⟩
    have hi : i < ns.length := by simpa using hj
    exact ⟨_, _, hs, by rw [atI_nat, List.getElem?_map, List.getElem?_eq_getElem hi]; rfl, q _⟩
  · refine sIf (r := false) (tC (xV (i := 1) rfl (xBf (a1 (xV (i := 0) rfl ⟨_, hs, ?_⟩)))))
    exact ⟨decide_eq_false hj, sEnd (sR (xI (q _)))⟩
theorem s_mixed {c j : Int} (hj : -1000000000 < j ∧ j < 1000000000) (q : ∀ m : Nat, Q (.int (m : Nat)) h) : callS sgT (k + 1) (.fn n__law_mixed) [.int c, .int j] h Q X := by
  refine xFn (d := d__law_mixed) rfl rfl ?_
  refine sR (xBin (xBin (xBin (xBin (xBin (xBin (xBin (xV (i := 0) rfl (xI (iMul (.inr (by omega)) (xI (iMod (by decide) ?_))))))))))))
  refine xBin (xBin (xI (xV (i := 1) rfl (iMul (.inl (by omega)) (xV (i := 1) rfl (iMul (.inr (by omega)) (iAdd ?_)))))))
  refine xBin (xI (xV (i := 1) rfl (iMul (.inl (by omega)) (iAdd (xI (iMul (.inr (by omega)) (xI (iMod (by decide) (xI (iDiv (by decide) (by decide) ?_))))))))))
  obtain ⟨m, e, hm⟩ := fmn ((((c * 48271).fmod 2147483647 + 7919 * j * j) + 104729 * j) * 69621) (n := 2147483629) (by omega)
  rw [e]
  have e7 : ((m : Nat) : Int).fdiv 7 = ((m / 7 : Nat) : Int) := by rw [Int.fdiv_eq_ediv_of_nonneg _ (by omega)]; omega
  rw [e7]
  exact q _
/-- a list walked by a comprehension with a test -/
theorem xLcC {elt : E} {i : Nat} {it : I} {c : C} (hi : i < l.length) (q : evI sgT (callS sgT k) X it l h fun items live h1 => ∀ h2, Nw h1 (.lst []) h2 →
      compL live h1.length (fun x h2 K => evT sgT (callS sgT k) (fun _ _ => False) c ((l.set i none).set i (some x)) h2 fun b h3 => if b = true then evE sgT (callS sgT k) (fun _ _ => False) elt ((l.set i none).set i (some x)) h3 fun y h5 => K (some y) h5 else K none h3) (fun h2 => Q (.ref h1.length) h2) items h2) : evE sgT (callS sgT k) X (.lc elt (.nm i) it (.so c)) l h Q := by
  refine evI_mono (cs_le sgT k) (fun _ _ z => z) it l h _ _ (fun items live h1 q => ?_) q
  refine compL_mono (fun x h2 R R' kR q => ?_) (fun _ z => z) items _ (q _ Nw.of)
  refine ⟨by simp [wipeL, tNs]; exact hi, evT_mono (cs_le sgT k) (fun _ _ z => z) c _ h2 _ _ (fun b h3 q => ?_) q⟩
  cases b with
  | true => exact evE_mono (cs_le sgT k) (fun _ _ z => z) elt _ h3 _ _ (fun y h5 q => kR _ _ q) q
  | false => exact kR _ _ q
theorem cut_last9 {α : Type} {xs : List α} : cut xs (some (-9)) none = xs.drop (xs.length - 9) := by
  unfold cut sIx
  dsimp only
  rw [if_pos (by omega), show (-9 + (xs.length : Int)).toNat = xs.length - 9 by omega]
  exact List.take_of_length_le (by simp)
theorem at_lastN {α : Type} {xs : List α} {x : α} (e : xs.getLast? = some x) : atI xs (-1 : Int) = some x := by
  obtain ⟨ys, rfl⟩ := List.getLast?_eq_some_iff.mp e
  exact at_last
theorem cut_lastN {α : Type} {xs : List α} : cut xs none (some (-1)) = xs.dropLast := by
  unfold cut sIx
  dsimp only
  rw [if_pos (by omega), show (-1 + (xs.length : Int)).toNat = xs.length - 1 by omega, List.dropLast_eq_take]
  simp
/-- how many of the last nine are deep -/
theorem c_deep {a : Nat} {S : List Pr} {x0 x1 x3 x4 : Option PV} {R : Int → PH → Prop} (e : h[a]? = some (.lst (S.map prV))) (hz : S.length ≤ 900) (q : ∀ h' n, Gr h h' → (n = 0 → ∀ p ∈ S.drop (S.length - 9), p.2 ≤ 13) → R ((n : Nat) : Int) h') :
    evE sgT (callS sgT k) X (.bf .len (.cons (.lc (.var 5) (.nm 5) (.seq (.slc (.var 2) (.so (.neg (.int 9))) .no)) (.so (.cmp .gt (.idx (.var 5) (.int 1)) (.int 13)))) .nil)) [x0, x1, some (.ref a), x3, x4, none] h (fun v h' => ∃ n : Nat, v = .int (n : Nat) ∧ R ((n : Nat) : Int) h') := by
  have N0 := Nw.of (h := h) (o := .lst ((S.drop (S.length - 9)).map prV))
  refine xBf (a1 (xLcC (by show 5 < 6; decide) (iSeq (xs := (S.drop (S.length - 9)).map prV) (xSlc (xV (i := 2) rfl (xOS (i := -9) (xNeg (i := 9) (xI ⟨rfl, rfl, xON ⟨_, lst_got e, ?_⟩⟩))))))))
  rw [cut_map, cut_last9]
  have lD : (S.drop (S.length - 9)).length ≤ 900 := by rw [List.length_drop]; omega
  generalize S.drop (S.length - 9) = D at N0 q lD ⊢
  generalize h ++ [PO.lst (D.map prV)] = h1 at N0 ⊢
  refine ⟨lst_got N0.at_, fun h2 N2 => ?_⟩
  refine comp_inv (fun j acc h' => Gr h1 h' ∧ acc = ((D.take j).filter fun p => decide (13 < p.2)).map prV) (fun _ _ _ iv => lst_got (Gr.get iv.1 N0.at_)) _ 0 [] h2 ⟨N2.gr, rfl⟩ N2.at_ (by show 0 + _ ≤ 16777216; rw [List.length_map]; omega) (fun j x acc h' K ex iv ea c1 c2 => ?_) fun acc h' iv ea => ?_
  · obtain ⟨gr, rfl⟩ := iv
    rw [List.getElem?_map] at ex
    obtain ⟨p, ep, rfl⟩ := Option.map_eq_some_iff.mp ex
    have tk : D.take (0 + j + 1) = D.take (0 + j) ++ [p] := by rw [Nat.zero_add, List.take_succ, ep]; rfl
    refine tC (xIdx (xV (i := 5) (v := prV p) rfl (xI ⟨.int (p.2 : Nat), rfl, xI ?_⟩)))
    rw [cGt]
    by_cases z : 13 < p.2
    · rw [decide_eq_true (show (13 : Int) < (p.2 : Nat) by omega), if_pos rfl]
      refine xV (i := 5) (v := prV p) rfl ?_
      refine c1 _ _ ea fun h4 u => ⟨Gr.up gr u (Nat.le_refl _), ?_⟩
      rw [tk, List.filter_append, List.map_append]
      simp [z]
    · rw [decide_eq_false (show ¬ (13 : Int) < (p.2 : Nat) by omega), if_neg Bool.false_ne_true]
      refine c2 _ ea ⟨gr, ?_⟩
      rw [tk, List.filter_append]
      simp [z]
  · obtain ⟨gr, rfl⟩ := iv
    rw [List.length_map, Nat.zero_add, List.take_length] at ea
    refine ⟨_, lst_got ea, _, rfl, ?_⟩
    refine q h' _ (N0.gr.trans gr) fun z p mp => ?_
    rw [List.length_map] at z
    have z := List.eq_nil_of_length_eq_zero z
    have := (List.filter_eq_nil_iff.mp z) p mp
    simpa using this
theorem lst_ne {S : List Pr} {p : Pr} : (S ++ [p]).getLast? = some p := by simp
theorem s_term {ca : Nat} {ns : List Int} {s : Int} (e : lstOf h (.ref ca) = some (ns.map PV.int)) (hn : ns.length ≤ 40) (q : ∀ h' t, Gr h h' → Dr t → Q (pl t) h') : callS sgT (k + 3) (.fn n__law_term) [.ref ca, .int s] h Q X := by
  refine xFn (d := d__law_term) rfl rfl ?_
  refine sAs (by show 2 < 6; decide) (xLst (a1 (xTup (aC (xCall (aC (xI (a1 (xV (i := 1) rfl (s_atom fun h1 t0 g1 w0 d0 z0 => a1 (xI ⟨lz2, by show 1 ≤ 16777216; decide, fun h2 N2 => ?_⟩)))))))))))
  have g2 : Gr h h2 := Gr.nw g1 N2
  have lc := lstOf_lt e
  refine sFor (iEnu (xV (i := 0) rfl ⟨_, Stays.lst g2 (by simp) e, ?_⟩))
  refine iter_invN (fun i l' h' => ∃ a x3 x4 S, l' = [some (.ref ca), some (.int s), some (.ref a), x3, x4, none] ∧ Gr h h' ∧ h.length ≤ a ∧ h'[a]? = some (.lst (S.map prV)) ∧ S ≠ [] ∧ (∀ p ∈ S, OkP p) ∧ szP S ≤ 1 + i) (fun i l' h' iv => ?_) _ 0 (fun i v ev l' h' K iv hK => ?_) (fun l' h' iv => ?_) _ h2 ⟨h1.length, none, none, [(t0, 1)], rfl, g2, g1.le, N2.at_, by simp, fun p mp => ?_, ?_⟩
  · obtain ⟨_, _, _, _, _, g, _⟩ := iv
    exact Stays.lst g (by simp) e
  · rw [Nat.zero_add] at iv
    obtain ⟨a, x3, x4, S, rfl, g, la, eS, ne, ok, sz⟩ := iv
    obtain ⟨x, ex, rfl⟩ := enum_at ev
    have li : i < ns.length := by have := (List.getElem?_eq_some_iff.mp ex).1; simpa using this
    rw [List.getElem?_map] at ex
    obtain ⟨c, ec, rfl⟩ := Option.map_eq_some_iff.mp ex
    have lS := szP_len S
    refine ⟨_, rfl, rfl, _, _, rfl, by show 3 < 6; decide, _, _, rfl, by show 4 < 6; decide, rfl, ?_⟩
    refine sAs (by show 4 < 6; decide) (xCall (aC (xV (i := 4) rfl (a1 (xV (i := 3) rfl (s_mixed (by omega) fun m => ?_))))))
    -- what is done behind
    have fin : ∀ (h3 : PH) (S' : List Pr) (p : Pr) (D : En), D.nx = K → Gr h h3 → h3[a]? = some (.lst ((S' ++ [p]).map prV)) → (∀ x ∈ S', OkP x) → OkP p → szP (S' ++ [p]) ≤ 1 + (i + 1) → evB sgT (callS sgT (k + 2)) (.cons (.ife (.cmp .gt (.idx (.idx (.var 2) (.neg (.int 1))) (.int 1)) (.int 13)) (.cons (.asg (.nm 2) (.bin .add (.lst (.cons (.tup (.cons (.idx (.idx (.var 2) (.neg (.int 1))) (.int 0)) (.cons (.int 14) .nil))) .nil)) (.slc (.var 2) .no (.so (.neg (.int 1)))))) .nil) .nil) .nil) [some (.ref ca), some (.int s), some (.ref a), some (.int ((0 + i : Nat) : Int)), some (.int (m : Nat)), none] h3 D := by
      intro h3 S' p D hD g3 e3 ok' okp sz'
      have last : atI ((S' ++ [p]).map prV) (-1 : Int) = some (prV p) := by rw [List.map_append]; exact at_last
      refine sIf (r := decide (13 < p.2)) (tC (xIdx (xIdx (xV (i := 2) rfl (xNeg (i := 1) (xI ⟨rfl, ⟨_, _, lst_got e3, last, xI ⟨.int (p.2 : Nat), rfl, xI ?_⟩⟩⟩))))))
      rw [cGt]
      refine ⟨by simp; omega, ?_⟩
      by_cases z : 13 < p.2
      · rw [decide_eq_true z]
        refine sAs (by show 2 < 6; decide) (xBin (xLst (a1 (xTup (aC (xIdx (xIdx (xV (i := 2) rfl (xNeg (i := 1) (xI ⟨rfl, ⟨_, _, lst_got e3, last, xI ⟨pl p.1, rfl, a1 (xI ⟨lz2, by show 1 ≤ 16777216; decide, fun h4 N4 => ?_⟩)⟩⟩⟩))))))))))
        refine xSlc (xV (i := 2) rfl (xON (xOS (i := -1) (xNeg (i := 1) (xI ⟨rfl, rfl, ⟨_, lst_got (N4.get e3), ?_⟩⟩)))))
        rw [cut_map, cut_lastN, List.dropLast_concat]
        have N5 := Nw.of (h := h4) (o := .lst (S'.map prV))
        generalize h4 ++ [PO.lst (S'.map prV)] = h5 at N5 ⊢
        have lS' := szP_len (S' ++ [p])
        rw [List.length_append] at lS'
        refine ⟨_, _, N5.get N4.at_, N5.at_, by show 1 + _ ≤ 16777216; rw [List.length_map]; omega, ?_⟩
        have N6 := Nw.of (h := h5) (o := .lst (PV.tup [pl p.1, .int 14] :: S'.map prV))
        refine sEnd (G := sgT) (k := k + 2) (sEnd (G := sgT) (k := k + 2) ?_)
        show D.nx _ _
        rw [hD]
        refine hK _ _ ⟨h5.length, _, _, (p.1, 14) :: S', rfl, Gr.nw (Gr.nw (Gr.nw g3 N4) N5) N6, ?_, N6.at_, by simp, fun x mx => ?_, ?_⟩
        · have := g3.le; have := N4.len; have := N5.len; omega
        · rcases List.mem_cons.mp mx with rfl | mx
          · exact ⟨okp.1, by have := okp.2.1; have := okp.2.2; show dep p.1 ≤ 14; omega, Nat.le_refl _⟩
          · exact ok' x mx
        · rw [szP_app] at sz'
          have e1 : szP [p] = szT p.1 := by simp [szP]
          have e2 : szP ((p.1, 14) :: S') = szT p.1 + szP S' := rfl
          omega
      · rw [decide_eq_false z]
        refine sEnd (G := sgT) (k := k + 2) (sEnd (G := sgT) (k := k + 2) ?_)
        show D.nx _ _
        rw [hD]
        refine hK _ _ ⟨a, _, _, S' ++ [p], rfl, g3, la, e3, by simp, fun x mx => ?_, by omega⟩
        rcases List.mem_append.mp mx with mx | mx
        · exact ok' x mx
        · rw [List.mem_singleton.mp mx]; exact okp
    -- a term put on the pile
    have app : ∀ (h3 : PH) (S' : List Pr) (p : Pr) (D : En), D.nx = K → Gr h h3 → h3[a]? = some (.lst (S'.map prV)) → (∀ x ∈ S', OkP x) → OkP p → szP S' + szT p.1 ≤ 1 + (i + 1) → bmV .append (.ref a) [prV p] h3 fun _ h1 => evB sgT (callS sgT (k + 2)) .nil [some (.ref ca), some (.int s), some (.ref a), some (.int ((0 + i : Nat) : Int)), some (.int (m : Nat)), none] h1 { nx := fun l' h' => evB sgT (callS sgT (k + 2)) (.cons (.ife (.cmp .gt (.idx (.idx (.var 2) (.neg (.int 1))) (.int 1)) (.int 13)) (.cons (.asg (.nm 2) (.bin .add (.lst (.cons (.tup (.cons (.idx (.idx (.var 2) (.neg (.int 1))) (.int 0)) (.cons (.int 14) .nil))) .nil)) (.slc (.var 2) .no (.so (.neg (.int 1)))))) .nil) .nil) .nil) l' h' D, rt := D.rt, ct := D.ct, ex := D.ex } := by
      intro h3 S' p D hD g3 e3 ok' okp sz'
      have lS' := szP_len S'
      refine ⟨_, e3, by show _ < 16777216; rw [List.length_map]; omega, ?_⟩
      have u := Up.of (o := .lst (S'.map prV ++ [prV p])) e3
      refine sEnd (G := sgT) (k := k + 2) (fin _ S' p D hD (Gr.up g3 u la) (by rw [u.at_, List.map_append]; rfl) ok' okp ?_)
      rw [szP_app]
      have e1 : szP [p] = szT p.1 := by simp [szP]
      omega
    have hm5 : ∃ m5 : Nat, ((m : Nat) : Int).fmod 5 = (m5 : Nat) := let ⟨x, hx, _⟩ := fmn ((m : Nat) : Int) (n := 5) (by omega); ⟨x, hx⟩
    obtain ⟨m5, hm5⟩ := hm5
    refine sIfB (tOr (r := decide (m5 < 2)) (tC (xBin (xV (i := 4) rfl (xI (iMod (by decide) (xI ?_)))))))
    rw [hm5, cLt]
    refine ⟨by simp; omega, ?_⟩
    have atom : ∀ h3, Gr h' h3 → evB sgT (callS sgT (k + 2)) (.cons (.exp (.bm .append (.var 2) (.cons (.tup (.cons (.call n__law_atom (.cons (.bin .fdiv (.var 4) (.int 5)) (.cons (.var 1) .nil))) (.cons (.int 1) .nil))) .nil))) .nil) [some (.ref ca), some (.int s), some (.ref a), some (.int ((0 + i : Nat) : Int)), some (.int (m : Nat)), none] h3 { nx := fun l' h' => evB sgT (callS sgT (k + 2)) (.cons (.ife (.cmp .gt (.idx (.idx (.var 2) (.neg (.int 1))) (.int 1)) (.int 13)) (.cons (.asg (.nm 2) (.bin .add (.lst (.cons (.tup (.cons (.idx (.idx (.var 2) (.neg (.int 1))) (.int 0)) (.cons (.int 14) .nil))) .nil)) (.slc (.var 2) .no (.so (.neg (.int 1)))))) .nil) .nil) .nil) l' h' ⟨K, Q, K, fun x _ h' => X x h'⟩, rt := Q, ct := K, ex := fun x _ h' => X x h' } := by
      intro h3 g3
      refine sE_ (xBm (xV (i := 2) rfl ⟨ty_get (g3.get eS), a1 (xTup (aC (xCall (aC (xBin (xV (i := 4) rfl (xI (iDiv (by decide) (by decide) (a1 (xV (i := 1) rfl (s_atom fun h4 t g4 w d z => a1 (xI ⟨lz2, ?_⟩))))))))))))⟩))
      exact app h4 S (t, 1) ⟨K, Q, K, fun x _ h' => X x h'⟩ rfl (g.trans (Stays.trans g3 g4)) (Gr.get (Stays.trans g3 g4) eS) ok ⟨w, by show dep t ≤ 1; omega, by show 1 ≤ 14; omega⟩ (by show szP S + szT t ≤ _; omega)
    by_cases z2 : m5 < 2
    · rw [decide_eq_true z2, if_pos rfl]
      exact atom h' .refl
    rw [decide_eq_false z2, if_neg Bool.false_ne_true]
    refine tC (mE_ (c_deep (x0 := some (.ref ca)) (x1 := some (.int s)) (x3 := some (.int ((0 + i : Nat) : Int))) (x4 := some (.int (m : Nat))) (R := fun n h3 => ∀ nn : Nat, n = (nn : Nat) → Gr h' h3 ∧ (nn = 0 → ∀ p ∈ S.drop (S.length - 9), p.2 ≤ 13)) eS (by omega) fun h3 n g3 h0 nn en => ⟨g3, fun z => h0 (by omega)⟩) fun v h3 hv => ?_)
    obtain ⟨n, rfl, hv⟩ := hv
    obtain ⟨g3, h0⟩ := hv n rfl
    refine xI ?_
    rw [cGt]
    by_cases zn : n = 0
    · rw [decide_eq_false (by omega)]
      have dp := h0 zn
      refine sIf (r := decide (m5 = 2)) (tC (xBin (xV (i := 4) rfl (xI (iMod (by decide) (xI (cEqI ?_)))))))
      rw [hm5]
      refine ⟨by simp; omega, ?_⟩
      have gg : ∀ {h4 : PH}, Stays [a] h3 h4 → Gr h h4 := fun st => Stays.gr (g.trans g3) st (by simpa using la)
      by_cases z3 : m5 = 2
      · rw [decide_eq_true z3]
        refine sE_ (xBm (xV (i := 2) rfl ⟨ty_get (g3.get eS), a1 (xCall (aC (xV (i := 2) rfl (aC (xBin (xV (i := 4) rfl (xI (iDiv (by decide) (by decide) (a1 (xV (i := 1) rfl (s_about (g3.get eS) (by omega) ne ok dp fun h4 S' p st e4 sub okp sz' => ?_)))))))))))⟩))
        refine app h4 S' p { nx := _, rt := _, ct := _, ex := _ } rfl (gg st) e4 (fun x mx => ok x (sub x mx)) okp (by omega)
      · rw [decide_eq_false z3]
        refine sE_ (xBm (xV (i := 2) rfl ⟨ty_get (g3.get eS), a1 (xCall (aC (xV (i := 2) rfl (aC (xBin (xV (i := 4) rfl (xI (iDiv (by decide) (by decide) (a1 (xV (i := 1) rfl (s_joined (g3.get eS) (by omega) ne ok dp fun h4 S' p st e4 sub okp sz' => ?_)))))))))))⟩))
        refine app h4 S' p { nx := _, rt := _, ct := _, ex := _ } rfl (gg st) e4 (fun x mx => ok x (sub x mx)) okp (by omega)
    · rw [decide_eq_true (by omega)]
      exact atom h3 g3
  · obtain ⟨a, x3, x4, S, rfl, g, la, eS, ne, ok, sz⟩ := iv
    rw [enum_len, List.length_map] at sz
    obtain ⟨p, ep⟩ : ∃ p, S.getLast? = some p := by
      cases e : S.getLast? with
      | some p => exact ⟨p, rfl⟩
      | none => exact absurd (List.getLast?_eq_none_iff.mp e) ne
    obtain ⟨S', rfl⟩ := List.getLast?_eq_some_iff.mp ep
    have okp := ok p (by simp)
    have last : atI ((S' ++ [p]).map prV) (-1 : Int) = some (prV p) := by rw [List.map_append]; exact at_last
    refine sR (xIdx (xIdx (xV (i := 2) rfl (xNeg (i := 1) (xI ⟨rfl, ⟨_, _, lst_got eS, last, xI ⟨pl p.1, rfl, ?_⟩⟩⟩)))))
    refine q h' p.1 g ⟨okp.1, Nat.le_trans okp.2.1 okp.2.2, ?_⟩
    rw [szP_app] at sz
    have e1 : szP [p] = szT p.1 := by simp [szP]
    omega
  · rw [List.mem_singleton.mp mp]
    exact ⟨w0, by show dep t0 ≤ 1; omega, by show 1 ≤ 14; omega⟩
  · show szT t0 + 0 ≤ 1 + 0; omega
end
end Py

set_option Elab.async false
set_option linter.all false
set_option maxRecDepth 100000
set_option maxHeartbeats 4000000
/-! One look at a term. -/
namespace Py
open PySem
def wV (w : Nat × Tm) : PV := .tup [.ref w.1, pl w.2]
def hV (x : Nat × Nat) : PV := .tup [.ref x.1, .int (x.2 : Nat)]
def szW (W : List (Nat × Tm)) : Nat := (W.map fun w => szT w.2).sum
theorem szW_app (S U : List (Nat × Tm)) : szW (S ++ U) = szW S + szW U := by unfold szW; rw [List.map_append, List.sum_append]
theorem zipT_w : ∀ (ps : List Nat) (ts : List Tm), zipT (ps.map .ref) (pls ts) = (ps.zip ts).map wV
  | [], _ => rfl
  | _ :: _, [] => rfl
  | p :: ps, t :: ts => by show _ :: zipT (ps.map .ref) (pls ts) = _; rw [zipT_w ps ts]; rfl
theorem szW_zip : ∀ (ps : List Nat) (ts : List Tm), ps.length = ts.length → szW (ps.zip ts) = szTs ts
  | [], [], _ => rfl
  | p :: ps, t :: ts, h => by
    have := szW_zip ps ts (by simpa using h)
    show szT t + szW (ps.zip ts) = szT t + szTs ts
    omega
theorem szW_len : ∀ W : List (Nat × Tm), W.length ≤ szW W
  | [] => Nat.le_refl _
  | w :: W => by
    have := szW_len W
    have := szT_pos w.2
    show W.length + 1 ≤ szT w.2 + szW W
    omega
theorem TOs.zip {n : Nat} {h : PH} : ∀ {ts : List Tm} {ps : List Nat}, TOs n h ts ps → ∀ w ∈ ps.zip ts, TO n h w.2 w.1 ∧ w.2 ∈ ts
  | [], ps, e, w, m => by cases (show ps = [] from e); cases m
  | t :: ts, ps, ⟨p, r, e, e1, e2⟩, w, m => by
    subst e
    rcases List.mem_cons.mp m with rfl | m
    · exact ⟨e1, List.mem_cons_self ..⟩
    · obtain ⟨a, b⟩ := TOs.zip e2 w m
      exact ⟨a, List.mem_cons_of_mem _ b⟩
theorem mt_parts (t : Tm) : mth sgT (tmCl t) n_parts = some n_Term_parts := by cases t <;> rfl
theorem mt_depth (t : Tm) : mth sgT (tmCl t) n_depth = some n_Term_depth := by cases t <;> rfl
theorem mt_size (t : Tm) : mth sgT (tmCl t) n_size = some n_Term_size := by cases t <;> rfl
theorem okV_row (t : Tm) : okV (rowOf t) = true := (FlP.tup (n := 0) (.cons .int (.cons .int .nil))).ok (by omega)
section
variable {k n p : Nat} {h h0 : PH} {Q : KQ} {X : KX} {l : Loc}
theorem TO.ins {t : Tm} (to : TO n h0 t p) (g : Gr h0 h) : ∃ fs, h[p]? = some (.ins (tmCl t) fs) := by
  obtain ⟨ps, own, ⟨il, i, j, _, _, e1, e2⟩, ts⟩ := to.hd
  exact ⟨_, g.get e1⟩
/-- the parts of a term, told anew -/
theorem x_parts {t : Tm} (to : TO n h0 t p) (g : Gr h0 h) (l4 : l[4]? = some (some (.ref p))) (q : ∀ h' ps, Nw h (.lst (ps.map PV.ref)) h' → TOs n h0 (parts t) ps → Q (.ref h.length) h') : evE sgT (callS sgT (k + 1)) X (.meth (.var 4) n_parts .nil) l h Q := by
  obtain ⟨ps, own, ⟨il, i, j, _, _, e1, e2⟩, ts⟩ := to.hd
  refine xMt (xV l4 ⟨p, _, _, _, rfl, g.get e1, mt_parts t, aN ?_⟩)
  refine xFn (d := d_Term_parts) rfl rfl ?_
  exact sR (xBf (a1 (xAtV (i := 0) rfl (g.get e1) (fld_h t).2.2 rfl ⟨_, lst_got (g.get e2), q _ ps Nw.of ts⟩)))
theorem x_depth {t : Tm} (to : TO n h0 t p) (g : Gr h0 h) (l4 : l[4]? = some (some (.ref p))) (q : Q (.int (hgt t : Nat)) h) : evE sgT (callS sgT (k + 1)) X (.meth (.var 4) n_depth .nil) l h Q := by
  obtain ⟨fs, e1⟩ := to.ins g
  exact xMt (xV l4 ⟨p, _, _, _, rfl, e1, mt_depth t, aN (m_depth (to.gr g) q)⟩)
theorem x_size {t : Tm} (to : TO n h0 t p) (g : Gr h0 h) (l4 : l[4]? = some (some (.ref p))) (q : Q (.int (szT t : Nat)) h) : evE sgT (callS sgT (k + 1)) X (.meth (.var 4) n_size .nil) l h Q := by
  obtain ⟨fs, e1⟩ := to.ins g
  exact xMt (xV l4 ⟨p, _, _, _, rfl, e1, mt_size t, aN (m_size (to.gr g) q)⟩)
theorem x_plain {i : Nat} {t : Tm} (d : Dr t) (hk : 45 ≤ k) (to : TO n h0 t p) (g : Gr h0 h) (l4 : l[i]? = some (some (.ref p))) (q : ∀ h', Gr h h' → Q (pl t) h') : evE sgT (callS sgT k) X (.meth (.var i) n_plain .nil) l h Q := by
  obtain ⟨fs, e1⟩ := to.ins g
  obtain ⟨f, hf⟩ := mt_plain t
  exact xMt (xV l4 ⟨p, _, _, f, rfl, e1, hf, aN (plT t k h n p f _ _ (by have := d.d; omega) (fit_sz t (by have := d.s; omega)) (to.gr g) hf q)⟩)
/-- the tuples of all parts -/
theorem c_plains {fa : Nat} {ts : List Tm} {ps : List Nat} (ds : ∀ u ∈ ts, Dr u) (hk : 45 ≤ k) (hz : ts.length ≤ 900) (tos : TOs n h0 ts ps) (g : Gr h0 h) (l6 : l[6]? = some (some (.ref fa))) (hl : l.length = 13) (e : h[fa]? = some (.lst (ps.map .ref)))
    (q : ∀ h', Gr h h' → h'[h.length]? = some (.lst (pls ts)) → Q (.ref h.length) h') : evE sgT (callS sgT k) X (.lc (.meth (.var 10) n_plain .nil) (.nm 10) (.seq (.var 6)) .no) l h Q := by
  have lps : ps.length = ts.length := tos.all.1
  refine xLc (by omega) (iSeq (xV l6 ⟨lst_got e, fun h2 N => ?_⟩))
  refine comp_inv (fun j acc h' => Gr h h' ∧ acc = pls (ts.take j)) (fun _ _ _ iv => lst_got (Gr.get iv.1 e)) _ 0 [] h2 ⟨N.gr, rfl⟩ N.at_ (by show 0 + _ ≤ 16777216; rw [List.length_map]; omega) (fun j x acc h' K ex iv ea c1 _ => ?_) fun acc h' iv ea => ?_
  · obtain ⟨gr, rfl⟩ := iv
    rw [List.getElem?_map] at ex
    obtain ⟨q', eq', rfl⟩ := Option.map_eq_some_iff.mp ex
    obtain ⟨u, eu, tu⟩ := tos.ix eq'
    refine x_plain (ds u (List.mem_of_getElem? eu)) hk tu (Stays.trans g gr) (by rw [List.getElem?_set_self (by simp; omega)]) fun h3 g3 => ?_
    refine c1 _ _ (g3.get ea) fun h4 u4 => ⟨Gr.up (Stays.trans gr g3) u4 (Nat.le_refl _), ?_⟩
    rw [show ts.take (0 + j + 1) = ts.take (0 + j) ++ [u] by rw [Nat.zero_add, List.take_succ, eu]; rfl, pls_map, pls_map, List.map_append]
    rfl
  · obtain ⟨gr, rfl⟩ := iv
    rw [List.length_map, Nat.zero_add, lps, List.take_length] at ea
    exact q h' gr ea
theorem s_reprT {t : Tm} (d : Dr t) (q : Q (.str (dat (pl t)).shown) h) : bfV .repr1 [pl t] h Q := by
  have r := rp_pl t d.w
  obtain ⟨hd, e⟩ := pl_its t
  rw [e] at r q ⊢
  exact s_repr r (by have := d.d; omega) (by have := d.s; omega) q
theorem ne_self {x : PV} {h : PH} {R : Bool → PH → Prop} (o : okV x = true) (q : R false h) : cmpV .ne x x h R := by
  rw [cmp_ne o o, eqv_self _ (by
    have := (Bool.and_eq_true_iff.mp o).2
    unfold SeqAt.shaped at this
    exact (Bool.and_eq_true_iff.mp this).1)]
  exact q
theorem ne_pls {a b : Nat} {ts : List Tm} {h : PH} {R : Bool → PH → Prop} (w : wels ts) (d : deps ts ≤ 20) (e1 : h[a]? = some (.lst (pls ts))) (e2 : h[b]? = some (.lst (pls ts))) (q : R false h) : cmpV .ne (.ref a) (.ref b) h R := by
  obtain ⟨z1, z2, z3⟩ := (fl_pls ts w).all
  have sh : SeqAt.shaped (.list (dats (pls ts))) = true := shaped_of (by simp [PyData.canLay0, z2]) (by simp only [PyData.depth]; omega)
  refine ne_lists (lst_got e1) (lst_got e2) z1 z1 sh sh ?_
  rw [eqvs_self _ z2]
  exact q
theorem s_whole {i : Int} (q : Q (.bl true) h) : callS sgT (k + 1) (.fn n__law_whole) [.int i] h Q X := by
  refine xFn (d := d__law_whole) rfl rfl ?_
  refine sR (xAnd (r := true) (xIsi (t := "int") (xV (i := 0) rfl ⟨rfl, congrArg PV.bl (by decide), ?_⟩)))
  show evE sgT (callS sgT k) _ _ _ _ _
  exact xNt (b := false) (xIsi (t := "int") (xV (i := 0) rfl ⟨rfl, congrArg PV.bl (by decide), q⟩))
/-- both numbers are whole ones -/
theorem x_whole {t : Tm} (l8 : l[8]? = some (some (rowOf t))) (hl : l.length = 13) (q : ∀ h', Gr h h' → Q (.bl true) h') : evE sgT (callS sgT (k + 1)) X (.bf .all1 (.cons (.lc (.call n__law_whole (.cons (.var 11) .nil)) (.nm 11) (.seq (.var 8)) .no) .nil)) l h Q := by
  refine xBf (a1 (xLc (by omega) (iSeq (xV l8 ⟨rfl, fun h2 N => ?_⟩))))
  refine comp_inv (fun j acc h' => Gr h h' ∧ acc = (List.replicate j true).map .bl) (fun _ _ _ _ => trivial) _ 0 [] h2 ⟨N.gr, rfl⟩ N.at_ (by show 0 + 2 ≤ 16777216; decide) (fun j x acc h' K ex iv ea c1 _ => ?_) fun acc h' iv ea => ?_
  · obtain ⟨gr, rfl⟩ := iv
    have hx : ∃ i, x = .int i := by
      match j, ex with
      | 0, ex => exact ⟨_, (Option.some.inj ex).symm⟩
      | 1, ex => exact ⟨_, (Option.some.inj ex).symm⟩
      | j + 2, ex => cases ex
    obtain ⟨i, rfl⟩ := hx
    refine xCall (a1 (xV (i := 11) (v := .int i) (by rw [List.getElem?_set_self (by simp; omega)]) (s_whole ?_)))
    refine c1 _ _ ea fun h4 u => ⟨Gr.up gr u (Nat.le_refl _), ?_⟩
    rw [List.replicate_succ', List.map_append]; rfl
  · obtain ⟨gr, rfl⟩ := iv
    exact ⟨_, lst_got ea, q h' gr⟩
end
end Py

set_option Elab.async false
set_option linter.all false
set_option maxRecDepth 100000
set_option maxHeartbeats 4000000
/-! Law 15. -/
namespace Py
open PySem
def lawMost : Nat := 63
def lawK : Nat := 60
theorem cut_1_41 {α : Type} {xs : List α} : (cut xs (some 1) (some 41)).length ≤ 40 := by
  unfold cut sIx
  dsimp only
  rw [if_neg (by omega), if_neg (by omega), List.length_take, List.length_drop]
  omega
/-- the loop's state -/
structure Lp (n : Nat) (h2 h : PH) (wa hb : Nat) (W : List (Nat × Tm)) (H : List (Nat × Nat)) : Prop where
  g : Gr h2 h
  lw : h2.length ≤ wa
  lh : h2.length ≤ hb
  ne : wa ≠ hb
  ew : h[wa]? = some (.lst (W.map wV))
  eh : h[hb]? = some (.lst (H.map hV))
  to : ∀ w ∈ W, TO n h2 w.2 w.1 ∧ Dr w.2
  hd : ∀ x ∈ H, ∃ xs, h[x.1]? = some (.lst xs) ∧ xs.length = x.2 ∧ x.1 ≠ wa ∧ x.1 ≠ hb ∧ h2.length ≤ x.1
  sz : H.length + szW W ≤ 60
section
variable {h0 h2 : PH} {n : Nat} {T : Tm} {Q : KQ} {X : KX}
/-- at the end -/
theorem s_held {h : PH} {wa hb : Nat} {W : List (Nat × Tm)} {H : List (Nat × Nat)} (L : Lp n h2 h wa hb W H) {x0 x1 x4 x5 x6 x7 x8 x9 x10 x11 : Option PV} {D : En} (q : ∀ h', D.rt (.bl true) h') :
    evB sgT (callS sgT 60) (.cons (.ret (.cmp .eq (.lc (.var 12) (.nm 12) (.seq (.var 3)) (.so (.cmp .ne (.bf .len (.cons (.idx (.var 12) (.int 0)) .nil)) (.idx (.var 12) (.int 1))))) (.lst .nil))) .nil) [x0, x1, some (.ref wa), some (.ref hb), x4, x5, x6, x7, x8, x9, x10, x11, none] h D := by
  have lH := L.sz
  refine sR (xCmp (xLcC (by show 12 < 13; decide) (iSeq (xV (i := 3) rfl ⟨lst_got L.eh, fun h3 N3 => ?_⟩))))
  refine comp_inv (fun j acc h' => Gr h h' ∧ acc = []) (fun _ _ _ iv => lst_got (Gr.get iv.1 L.eh)) _ 0 [] h3 ⟨N3.gr, rfl⟩ N3.at_ (by show 0 + _ ≤ 16777216; rw [List.length_map]; omega) (fun j x acc h' K ex iv ea c1 c2 => ?_) fun acc h' iv ea => ?_
  · obtain ⟨gr, rfl⟩ := iv
    rw [List.getElem?_map] at ex
    obtain ⟨y, ey, rfl⟩ := Option.map_eq_some_iff.mp ex
    obtain ⟨xs, e1, e2, _⟩ := L.hd y (List.mem_of_getElem? ey)
    refine tC (xBf (a1 (xIdx (xV (i := 12) (v := hV y) rfl (xI ⟨.ref y.1, rfl, _, lst_got (gr.get e1), ?_⟩)))))
    refine xIdx (xV (i := 12) (v := hV y) rfl (xI ⟨.int (y.2 : Nat), rfl, ?_⟩))
    rw [e2]
    show cmpV .ne (.int (y.2 : Nat)) (.int (y.2 : Nat)) h' _
    rw [ne_int, decide_eq_false (by simp)]
    exact c2 _ ea ⟨gr, rfl⟩
  · obtain ⟨gr, rfl⟩ := iv
    refine xLst (aN ⟨by decide, fun h4 N4 => ?_⟩)
    exact eq_nil (lst_got (N4.get ea)) (lst_got N4.at_) (q _)
end
theorem law_true : ∀ ns : List Int, ns.length ≤ lawMost → callS sgT (lawK + 1) (.fn n_law) [.ref 0] [.frl (ns.map PV.int)] (fun v _ => v = .bl true) (fun _ _ => False) := by
  intro ns hl
  show callS sgT (60 + 1) _ _ _ _ _
  have e0 : ([PO.frl (ns.map PV.int)] : PH)[0]? = some (.frl (ns.map PV.int)) := rfl
  generalize [PO.frl (ns.map PV.int)] = h0 at e0 ⊢
  refine xFn (d := d_law) rfl rfl ?_
  refine sAs (by show 1 < 13; decide) (xCall (aC (xSlc (xV (i := 0) rfl (xOS (i := 1) (xI ⟨rfl, xOS (i := 41) (xI ⟨rfl, ⟨_, frl_got e0, ?_⟩⟩)⟩))))))
  rw [cut_map]
  have lc := cut_1_41 (xs := ns)
  have N1 := Nw.of (h := h0) (o := .lst ((cut ns (some 1) (some 41)).map PV.int))
  generalize cut ns (some 1) (some 41) = cs at N1 lc ⊢
  generalize h0 ++ [PO.lst (cs.map PV.int)] = h1 at N1 ⊢
  refine a1 (xCall (aC (xV (i := 0) rfl (a1 (xI (s_cell (Stays.lst N1.gr (by simp) (frl_got e0)) (by decide) fun c => ?_))))))
  refine s_term (k := 57) (lst_got N1.at_) lc fun h1' T g1 dT => ?_
  -- the term
  refine sAs (by show 2 < 13; decide) (xLst (a1 (xTup (aC (xCall (a1 (xV (i := 1) rfl (s_tm T (fit_sz T (by have := dT.s; omega)) 60 h1' _ _ (by have := dT.d; omega) fun h2 p g2 to => a1 (xV (i := 1) rfl ⟨lz2, lz1, fun h3 N3 => ?_⟩)))))))))
  refine sAs (by show 3 < 13; decide) (xLst (aN ⟨by decide, fun h4 N4 => ?_⟩))
  have L0 : Lp h1'.length h2 h4 h2.length h3.length [(p, T)] [] := ⟨Gr.nw N3.gr N4, Nat.le_refl _, by have := N3.len; omega, by have := N3.len; omega, N4.get N3.at_, N4.at_, fun w mw => by rw [List.mem_singleton.mp mw]; exact ⟨to, dT⟩, nofun, by have := dT.s; show 0 + (szT T + 0) ≤ 60; omega⟩
  have ls : h0.length ≤ h2.length := by have := N1.gr.le; have := g1.le; have := g2.le; omega
  clear N3 N4
  generalize h1'.length = n at L0 to
  generalize hwa : h2.length = wa at L0
  generalize h3.length = hb at L0
  -- the loop
  refine sWhl (n := szW [(p, T)] + 1) ?_
  have loop : ∀ (m : Nat) (h : PH) (wa hb : Nat) (W : List (Nat × Tm)) (H : List (Nat × Nat)) (x4 x5 x6 x7 x8 x9 : Option PV), szW W ≤ m → Lp n h2 h wa hb W H → whlN (fun l' h' K => evT sgT (callS sgT 60) (fun x h'' => False) (.cmp .ne (.var 2) (.lst .nil)) l' h' fun r h1 => if r = true then evB sgT (callS sgT 60) (match b_law with | .cons _ (.cons _ (.cons _ (.cons (.whl _ b) _))) => b | _ => .nil) l' h1 { nx := K, rt := fun v _ => v = .bl true, ct := K, ex := fun x _ h'' => False } else evB sgT (callS sgT 60) (match b_law with | .cons _ (.cons _ (.cons _ (.cons (.whl _ _) b))) => b | _ => .nil) l' h1 ⟨fun _ h' => PV.non = .bl true, fun v _ => v = .bl true, fun _ _ => False, fun x _ h' => False⟩) (m + 1) [some (.ref 0), some (pl T), some (.ref wa), some (.ref hb), x4, x5, x6, x7, x8, x9, none, none, none] h := by
    intro m
    induction m with
    | zero =>
      intro h wa hb W H x4 x5 x6 x7 x8 x9 hm L
      have := szW_len W
      have eW : W = [] := List.eq_nil_of_length_eq_zero (by omega)
      subst eW
      refine tC (xV (i := 2) rfl (xLst (aN ⟨by decide, fun h3 N3 => ?_⟩)))
      refine ne_nil (lst_got (N3.get L.ew)) (lst_got N3.at_) ?_
      show evB _ _ _ _ _ _
      have L3 : Lp n h2 h3 wa hb [] H := ⟨Gr.nw L.g N3, L.lw, L.lh, L.ne, N3.get L.ew, N3.get L.eh, L.to, fun x mx => let ⟨xs, a1, a2⟩ := L.hd x mx; ⟨xs, N3.get a1, a2⟩, L.sz⟩
      exact s_held L3 fun _ => rfl
    | succ m ih =>
      intro h wa hb W H x4 x5 x6 x7 x8 x9 hm L
      refine tC (xV (i := 2) rfl (xLst (aN ⟨by decide, fun h3 N3 => ?_⟩)))
      refine ne_nil (lst_got (N3.get L.ew)) (lst_got N3.at_) ?_
      have L3 : Lp n h2 h3 wa hb W H := ⟨Gr.nw L.g N3, L.lw, L.lh, L.ne, N3.get L.ew, N3.get L.eh, L.to, fun x mx => let ⟨xs, a1, a2⟩ := L.hd x mx; ⟨xs, N3.get a1, a2⟩, L.sz⟩
      clear N3 L
      rcases List.eq_nil_or_concat W with rfl | ⟨W, w, rfl⟩
      · show evB _ _ _ _ _ _
        exact s_held L3 fun _ => rfl
      rw [List.concat_eq_append] at *
      obtain ⟨t, dt⟩ : ∃ t, w.2 = t := ⟨_, rfl⟩
      obtain ⟨tw, dw⟩ := L3.to w (by simp)
      have ew := L3.ew
      rw [show (W ++ [w]).map wV = W.map wV ++ [wV w] by rw [List.map_append]; rfl] at ew
      have ne0 : (W.map wV ++ [wV w]).isEmpty = false := by cases W <;> rfl
      rw [show (W ++ [w]).map wV = W.map wV ++ [wV w] by rw [List.map_append]; rfl, ne0]
      show evB sgT (callS sgT 60) _ _ _ _
      -- the last one is taken off
      show evE sgT (callS sgT 60) _ (.bm .pop0 (.var 2) .nil) _ _ _
      refine xBm (xV (i := 2) rfl ⟨ty_get ew, aN ⟨_, wV w, ew, by simp, ?_⟩⟩)
      rw [List.dropLast_concat]
      have u := Up.of (o := .lst (W.map wV)) ew
      generalize h3.set wa (.lst (W.map wV)) = h4 at u ⊢
      have sz := L3.sz
      rw [szW_app] at sz hm
      have e1 : szW [w] = szT w.2 := by simp [szW]
      have p1 := szT_pos w.2
      have L4 : Lp n h2 h4 wa hb W H := ⟨Gr.up L3.g u L3.lw, L3.lw, L3.lh, L3.ne, u.at_, u.get (Ne.symm L3.ne) L3.eh, fun x mx => L3.to x (List.mem_append_left _ mx), fun x mx => let ⟨xs, a1, a2, a3, a4⟩ := L3.hd x mx; ⟨xs, u.get a3 a1, a2, a3, a4⟩, by omega⟩
      clear u ew L3 ne0
      refine ⟨_, rfl, rfl, _, _, rfl, by show 4 < 13; decide, _, _, rfl, by show 5 < 13; decide, rfl, ?_⟩
      have lW := szW_len W
      have dl := dw.len
      -- its parts
      refine sAs (by show 6 < 13; decide) (x_parts (k := 59) tw L4.g rfl fun h5 ps N5 tos => ?_)
      have lps : ps.length = (parts w.2).length := tos.all.1
      refine sAs (by show 7 < 13; decide) (xCall (a1 (xV (i := 5) rfl (s_lpart (k := 59) dw fun h6 b6 g6 e6 lb6 => ?_))))
      have e5 := g6.get N5.at_
      have wps : wels (parts w.2) := wels_of fun u mu => (dw.part mu).w
      have dps : deps (parts w.2) ≤ 20 := deps_of fun u mu => by have := (dw.part mu).d; omega
      have g46 : Gr h4 h6 := Stays.trans N5.gr g6
      refine sIf (r := false) (tOr (r := false) (tNt (tVb (xIsi (t := "list") (xV (i := 6) rfl ⟨ty_get e5, true, congrArg PV.bl (by decide), rfl, ?_⟩)))))
      show evT sgT (callS sgT 60) _ _ _ _ _
      refine tC (c_plains (fun u mu => dw.part mu) (by decide) (by omega) tos (Stays.trans L4.g g46) rfl rfl e5 fun h7 g7 e7 => xV (i := 7) rfl ?_)
      refine ne_pls wps dps e7 (g7.get e6) ⟨rfl, sEnd (G := sgT) (k := 60) ?_⟩
      have g47 : Gr h4 h7 := Stays.trans g46 g7
      -- depth and size
      refine sAs (by show 8 < 13; decide) (xTup (aC (x_depth (k := 59) tw (Stays.trans L4.g g47) rfl (a1 (x_size (k := 59) tw (Stays.trans L4.g g47) rfl ⟨lz2, ?_⟩)))))
      refine sIf (r := false) (tOr (r := false) (tC (xBf (a1 (x_plain dw (by decide) tw (Stays.trans L4.g g47) rfl fun h8 g8 => s_reprT dw (xBf (a1 (xV (i := 5) rfl (s_reprT dw ?_)))))))))
      show cmpV .ne (.str _) (.str _) h8 _
      refine ⟨by rw [decide_eq_true rfl]; rfl, ?_⟩
      show evT sgT (callS sgT 60) _ _ _ _ _
      have g48 : Gr h4 h8 := Stays.trans g47 g8
      refine tOr (r := false) (tC (xV (i := 8) (v := rowOf w.2) rfl (xCall (a1 (xV (i := 5) rfl (s_measured 14 w.2 dw.d dw (by decide) fun h9 g9 => ?_))))))
      refine ne_self (okV_row _) ⟨rfl, ?_⟩
      show evT sgT (callS sgT 60) _ _ _ _ _
      refine tNt (tVb (x_whole (k := 59) (t := w.2) rfl rfl fun h10 g10 => ⟨true, rfl, rfl, sEnd (G := sgT) (k := 60) ?_⟩))
      have g410 : Gr h4 h10 := Stays.trans (Stays.trans g48 g9) g10
      have g610 : Gr h6 h10 := Stays.trans (Stays.trans (Stays.trans g7 g8) g9) g10
      clear g7 g8 g9 g10 g47 g48
      have eb := g610.get e6
      have ef := g610.get e5
      have l4w := lt_of L4.ew
      have l4h := lt_of L4.eh
      have g2' := L4.g.le
      -- held
      refine sE_ (xBm (xV (i := 3) rfl ⟨ty_get (g410.get L4.eh), a1 (xTup (aC (xV (i := 6) rfl (a1 (xBf (a1 (xV (i := 7) rfl ⟨_, lst_got eb, lz2, ⟨_, g410.get L4.eh, by show _ < 16777216; rw [List.length_map]; omega, ?_⟩⟩)))))))⟩))
      rw [show (pls (parts w.2)).length = (parts w.2).length by rw [pls_map, List.length_map]]
      have u := Up.of (o := .lst (H.map hV ++ [.tup [.ref h4.length, .int ((parts w.2).length : Nat)]])) (g410.get L4.eh)
      generalize h10.set hb (.lst (H.map hV ++ [.tup [.ref h4.length, .int ((parts w.2).length : Nat)]])) = h11 at u ⊢
      have l5 := N5.len
      have eb11 : h11[b6]? = some (.lst (pls (parts w.2))) := u.get (by omega) eb
      have ef11 : h11[h4.length]? = some (.lst (ps.map .ref)) := u.get (by omega) ef
      have L11 : Lp n h2 h11 wa hb W (H ++ [(h4.length, (parts w.2).length)]) := by
        refine ⟨Gr.up (Stays.trans L4.g g410) u L4.lh, L4.lw, L4.lh, L4.ne, u.get L4.ne (g410.get L4.ew), by rw [u.at_, List.map_append]; rfl, L4.to, fun x mx => ?_, by rw [List.length_append]; show H.length + 1 + szW W ≤ 60; omega⟩
        rcases List.mem_append.mp mx with mx | mx
        · obtain ⟨xs, a1, a2, a3, a4, a5⟩ := L4.hd x mx
          exact ⟨xs, u.get a4 (g410.get a1), a2, a3, a4, a5⟩
        · rw [List.mem_singleton.mp mx]
          exact ⟨_, ef11, by rw [List.length_map, lps], by show h4.length ≠ wa; omega, by show h4.length ≠ hb; omega, by show h2.length ≤ h4.length; omega⟩
      -- waiting
      refine sAs (by show 2 < 13; decide) (xBin (xV (i := 2) rfl (xLzip (xV (i := 6) rfl (xV (i := 7) rfl ⟨_, _, lst_got ef11, lst_got eb11, by rw [pls_map, List.length_map, List.length_map, lps], fun h12 N12 => ?_⟩)))))
      rw [zipT_w] at N12
      have lz := szW_zip ps (parts w.2) lps
      have lp := sz_parts w.2
      refine ⟨_, _, N12.get L11.ew, N12.at_, by show _ + _ ≤ 16777216; rw [List.length_map, List.length_map, List.length_zip]; omega, ?_⟩
      have N13 := Nw.of (h := h12) (o := .lst (W.map wV ++ (ps.zip (parts w.2)).map wV))
      generalize h12 ++ [PO.lst (W.map wV ++ (ps.zip (parts w.2)).map wV)] = h13 at N13 ⊢
      have g1113 : Gr h11 h13 := Gr.nw N12.gr N13
      have l12 : h11.length < h12.length := by have := N12.len; omega
      have l11 : h2.length ≤ h11.length := L11.g.le
      have lhb := lt_of L11.eh
      have L13 : Lp n h2 h13 h12.length hb (W ++ ps.zip (parts w.2)) (H ++ [(h4.length, (parts w.2).length)]) := by
        refine ⟨Stays.trans L11.g g1113, by omega, L11.lh, by omega, by rw [N13.at_, List.map_append], g1113.get L11.eh, fun x mx => ?_, fun x mx => ?_, ?_⟩
        · rcases List.mem_append.mp mx with mx | mx
          · exact L11.to x mx
          · obtain ⟨z1, z2⟩ := tos.zip x mx
            exact ⟨z1, dw.part z2⟩
        · obtain ⟨xs, a1, a2, a3, a4, a5⟩ := L11.hd x mx
          exact ⟨xs, g1113.get a1, a2, by have := lt_of a1; omega, a4, a5⟩
        · have := L11.sz
          rw [szW_app]
          rw [List.length_append] at this ⊢
          show H.length + 1 + (szW W + _) ≤ 60
          omega
      have lb13 := g1113.get eb11
      -- another list, changed
      refine sAs (by show 9 < 13; decide) (x_parts (k := 59) tw L13.g rfl fun h14 ps2 N14 tos2 => ?_)
      have l2 := tos2.all
      refine sE_ (xBm (xV (i := 9) rfl ⟨ty_get N14.at_, a1 (xN ⟨_, N14.at_, ?_, ?_⟩)⟩))
      · show _ < 16777216
        have := l2.1
        rw [List.length_map]; omega
      have u15 := Up.of (o := .lst (ps2.map .ref ++ [.non])) N14.at_
      generalize h14.set h13.length (.lst (ps2.map .ref ++ [.non])) = h15 at u15 ⊢
      have g1315 : Gr h13 h15 := Gr.up N14.gr u15 (Nat.le_refl _)
      refine sIf (r := false) (tC (xBf (a1 (x_parts (k := 59) tw (Stays.trans L13.g g1315) rfl fun h16 ps3 N16 tos3 => ⟨_, lst_got N16.at_, xBf (a1 (xV (i := 7) rfl ⟨_, lst_got (N16.get (g1315.get lb13)), ?_⟩))⟩))))
      show cmpV .ne (.int _) (.int _) h16 _
      rw [ne_int, decide_eq_false (by rw [pls_map, List.length_map, List.length_map, tos3.all.1]; simp)]
      refine ⟨rfl, sEnd (G := sgT) (k := 60) (sEnd (G := sgT) (k := 60) ?_)⟩
      have g1316 : Gr h13 h16 := Gr.nw g1315 N16
      refine ih h16 h12.length hb _ _ _ _ _ _ _ _ (by rw [szW_app]; omega) ⟨Stays.trans L13.g g1316, L13.lw, L13.lh, L13.ne, g1316.get L13.ew, g1316.get L13.eh, L13.to, fun x mx => ?_, L13.sz⟩
      obtain ⟨xs, a1, a2⟩ := L13.hd x mx
      exact ⟨xs, g1316.get a1, a2⟩
  exact loop _ h4 wa hb _ _ _ _ _ _ _ _ (Nat.le_refl _) L0
end Py

set_option Elab.async false
set_option linter.all false
set_option maxRecDepth 100000
set_option maxHeartbeats 0
open PySem PySem.W PySem.Calls PyProof.Rows
theorem PySem.Challenge.cw_elderhouse_k15_parts_and_tuples_holds : PySem.Challenge.rw_elderhouse_k15_parts_and_tuples.Holds := by
  w_on; o_law
  refine HandSHeadRun.head_any (r := OpenLaw.row PySem.Challenge.rw_elderhouse_k15_parts_and_tuples) (q := view (OpenLaw.row PySem.Challenge.rw_elderhouse_k15_parts_and_tuples).prog [33]) (H := Py.hk) (ob := Py.ob) (M := 100000) (loose := Py.topNames) (d := HandSHeadRun.topDef (OpenLaw.row PySem.Challenge.rw_elderhouse_k15_parts_and_tuples).prog 33) (kwd := []) Py.ob_eq
    (by kernel_rfl) (fun s => by kernel_rfl) Py.run (by kernel_rfl) (by kernel_rfl) (by kernel_rfl) (by rfl) (by first | assumption | decide +kernel) (by decide +kernel) ⟨rfl, rfl, rfl, rfl, rfl, by decide +kernel⟩ ?hw ?hc
  case hw => w_witness2
  case hc =>
    refine Py.walk_ofG (l := PySem.Challenge.rw_elderhouse_k15_parts_and_tuples) (n := Py.lawMost) (k := Py.lawK + 1) (x := "_law_script") rfl (by decide) (by kernel_rfl) ⟨rfl, by decide, by decide⟩ ?F
    intro w mg fa h Y G hmg0
    obtain ⟨K, KX, c, cc⟩ := Y
    have hmg : mg ("law" : PySem.Str) = some (.ref fa) := by
      have e : (HandSHeadRun.topDef (OpenLaw.row PySem.Challenge.rw_elderhouse_k15_parts_and_tuples).prog 33).name = ("law" : PySem.Str) := by kernel_rfl
      rw [← e]
      exact hmg0
    obtain ⟨fd, hb, hF⟩ := Py.facts (P := (PySem.Challenge.rw_elderhouse_k15_parts_and_tuples).prog) (w := w) (k := Py.lawK) (n := 1) KX G hmg c cc
    exact ⟨K, fd, Py.spF (Py.moT K) (Py.lawK + 1) Py.n_law 1, KX, hb, fun H a ns hl hO hS => Py.law_sp (n := Py.lawMost) (dL := Py.d_law) rfl rfl Py.law_true H a ns hl hO hS, hF⟩

